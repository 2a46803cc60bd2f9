import PyProof.Rows.All
import Wide.All
import OpenK.AllK
import Wide.FinOn
import KE.KStateDown
import HandS.ForMost
import HandS.ForExc
import HandS.Defaults
import HandS.CallSlots
import HandS.Lambda
import HandS.HeadWalk
import HandS.HeadHook2
import HandS.HeadEnd
import HandS.HotCalls
import HandS.ExcIs
import HandS.ExcValue
import KE.KDictKeyed
import HandS.TupAny
import HandS.TupMul
import HandS.Style
import HandS.Deep
import HandS.IsInst
import HandS.Wide
import HandS.Text
import HandS.Zip
import HandS.Zip0
import PyProof.Draws
import PyProof.EnumMake
import HandS.HeadHook4
import HandS.SetFor
import HandS.WordsDict
import HandS.ReplaceLit
import HandS.Head2
import HandS.ReplaceList
import KE.DatumOrd
import HandS.SortKw
import HandS.OwnEq
import HandS.Nested
import HandS.TupLen
import HandS.DictComp
import KE.SortKeyHeap
import KE.KSortKey
import HandS.TupSets
import HandS.Strs
import KE.SortData
import PyProof.ToksMono
import PySem.Challenge.RW_regexsteps_k01_whole_patterns
set_option Elab.async false
set_option linter.all false
set_option maxRecDepth 100000
set_option maxHeartbeats 1000000
namespace DL
open PySem PySem.Spec PyProof.Rows
theorem obs_join {n : Nat} {fa : List He.Fa} {fn : List He.DefD} {tf : List He.Defn} {ex : PySem.W.Frag → Bool} {g : Addr → Option Obj} {w : World} (a b : Nat)
    (h1 : He.obsX n (fa.take a) (fn.take b) [] [] (fun _ => true) g = He.valX (fn.take b) [] w) (h2 : He.obsX n (fa.drop a) (fn.drop b) [] tf ex g = He.valX (fn.drop b) [] w) : He.obsX n fa fn [] tf ex g = He.valX fn [] w := by
  unfold He.obsX He.valX He.obsT He.valT He.obsD He.valD at *
  generalize He.frT g (He.asD g n) = K at *
  have a1 := congrArg (fun z : He.AlX => z.1.1.1) h1
  have a2 := congrArg (fun z : He.AlX => z.1.1.2) h1
  have b1 := congrArg (fun z : He.AlX => z.1.1.1) h2
  have b2 := congrArg (fun z : He.AlX => z.1.1.2) h2
  have b3 := congrArg (fun z : He.AlX => z.2) h2
  simp only [Bool.and_eq_true] at a1 b1
  have e1 : fa.all (fun f => f.ok K) = true := by
    rw [← List.take_append_drop a fa, List.all_append, a1.1, b1.1]
    rfl
  have e2 : fn.all (fun d => d.ok K) = true := by
    rw [← List.take_append_drop b fn, List.all_append, a1.2, b1.2]
    rfl
  have e3 : fn.map (fun d => He.fnW K d.at_) = fn.map He.DefD.val := by
    conv => lhs; rw [← List.take_append_drop b fn]
    conv => rhs; rw [← List.take_append_drop b fn]
    rw [List.map_append, List.map_append]
    exact congr (congrArg _ a2) b2
  have b3' : (ex K && He.tabsB g tf K) = true := b3
  rw [e1, e2, e3, b3']
  rfl
theorem run_join {α β γ δ ε ζ : Type} {o : Option α} {f1 : α → β} {f2 : α → γ} {g1 : α → δ} {g2 : α → ε} {g : α → ζ} {x : β} {y : γ} {v1 : δ} {v2 : ε} {v : ζ} (h1 : o.map (fun s => (f1 s, f2 s)) = some (x, y)) (h3 : o.map g1 = some v1) (h4 : o.map g2 = some v2) (hj : ∀ s, g1 s = v1 → g2 s = v2 → g s = v) : o.map (fun s => (f1 s, f2 s, g s)) = some (x, y, v) := by
  cases o with
  | none => cases h1
  | some s =>
    injection h1 with h1
    injection h1 with e1 e2
    injection h3 with h3
    injection h4 with h4
    show some (f1 s, f2 s, g s) = _
    rw [e1, e2, hj s h3 h4]
end DL
set_option Elab.async false
set_option linter.all false
set_option maxRecDepth 100000
set_option maxHeartbeats 2000000
namespace DL
open PySem PySem.Spec PyProof.Rows L2 L2H HotX LamX
def exNames0 : List Str := ["BadPattern", "BadText", "BadWord", "BadPosition", "BadLength", "BadDegree", "BadBudget", "BadSyntax", "TooMany", "NothingToUndo"]
def excB0 (K : PySem.W.Frag) (D : Addr) : Bool :=
  decide (PySem.W.findIn K (.ref D) "__getattribute__" = some (some (.builtin "BaseException.__getattribute__"))) && decide (PySem.W.findIn K (.ref D) "__getattr__" = some none) && decide (PySem.W.subIn K (.ref D) (.type "BaseException") = some true) && PySem.W.hasDictIn K D &&
  decide (PySem.W.findIn K (.ref D) "__class__" = some (some (.builtin "object.__class__"))) && decide (PySem.W.specialIn K (.builtin "object.__class__") "__get__" = some (some (.builtin "getset_descriptor.__get__"))) && decide (PySem.W.takesIn K (.builtin "object.__class__") = some true) && decide (PySem.W.mroIn K D (.type "object") = some true)
def exB0 (K : PySem.W.Frag) : Bool := exNames0.all fun c => excB0 K (He.ga K c) && (exNames0.all fun c' => decide (PySem.W.kitOne K (.ref (He.ga K c)) (.ref (He.ga K c')) = some (decide (c = c')))) && (decide (PySem.W.kitOne K (.ref (He.ga K c)) (.type "ValueError") = some true) && decide (PySem.W.exmOne K (.ref (He.ga K c)) (.ref (He.ga K "StepError")) = some true))
end DL
set_option Elab.async false
set_option linter.all false
set_option maxRecDepth 100000
set_option maxHeartbeats 0
namespace LW
open PySem PySem.Spec PyProof.Rows L2 L2H HotX LamX DL
def top (i : Nat) : Stmt := PySem.Challenge.pw_regexsteps_k01_whole_patterns.main.body.getD i (.Pass ⟨0, 0, 0, 0⟩)
def mth (i j : Nat) : Stmt := match top i with
  | .ClassDef (body := b) .. => b.getD j (.Pass ⟨0, 0, 0, 0⟩)
  | x => x
def d0 : He.DefD := ⟨("_law_cell", none), "_law_cell", "_law_cell", defArgs (top 67), defBody (top 67), defScope (top 67), [], []⟩
def d1 : He.DefD := ⟨("_law_drawn", none), "_law_drawn", "_law_drawn", defArgs (top 68), defBody (top 68), defScope (top 68), [], []⟩
def d2 : He.DefD := ⟨("_law_roll", none), "_law_roll", "_law_roll", defArgs (top 69), defBody (top 69), defScope (top 69), [], []⟩
def d3 : He.DefD := ⟨("_law_null", none), "_law_null", "_law_null", defArgs (top 73), defBody (top 73), defScope (top 73), [], []⟩
def d4 : He.DefD := ⟨("_law_draw", none), "_law_draw", "_law_draw", defArgs (top 74), defBody (top 74), defScope (top 74), [], []⟩
def d5 : He.DefD := ⟨("_law_pattern", none), "_law_pattern", "_law_pattern", defArgs (top 75), defBody (top 75), defScope (top 75), [], []⟩
def d6 : He.DefD := ⟨("is_letters", none), "is_letters", "is_letters", defArgs (top 19), defBody (top 19), defScope (top 19), [], []⟩
def d7 : He.DefD := ⟨("has_shape", none), "has_shape", "has_shape", defArgs (top 20), defBody (top 20), defScope (top 20), [], []⟩
def d8 : He.DefD := ⟨("items_of", none), "items_of", "items_of", defArgs (top 21), defBody (top 21), defScope (top 21), [], []⟩
def d9 : He.DefD := ⟨("nullable", none), "nullable", "nullable", defArgs (top 22), defBody (top 22), defScope (top 22), [], []⟩
def d10 : He.DefD := ⟨("stars_are_good", none), "stars_are_good", "stars_are_good", defArgs (top 25), defBody (top 25), defScope (top 25), [], []⟩
def d11 : He.DefD := ⟨("node_count", none), "node_count", "node_count", defArgs (top 24), defBody (top 24), defScope (top 24), [], []⟩
def d12 : He.DefD := ⟨("all_sets", none), "all_sets", "all_sets", defArgs (top 23), defBody (top 23), defScope (top 23), [], []⟩
def d13 : He.DefD := ⟨("is_pattern", none), "is_pattern", "is_pattern", defArgs (top 26), defBody (top 26), defScope (top 26), [], []⟩
def d14 : He.DefD := ⟨("check_pattern", none), "check_pattern", "check_pattern", defArgs (top 27), defBody (top 27), defScope (top 27), [], []⟩
def d15 : He.DefD := ⟨("is_nullable", none), "is_nullable", "is_nullable", defArgs (top 28), defBody (top 28), defScope (top 28), [], []⟩
def d16 : He.DefD := ⟨("_law_term", none), "_law_term", "_law_term", defArgs (top 71), defBody (top 71), defScope (top 71), [], []⟩
def d17 : He.DefD := ⟨("_law_told", none), "_law_told", "_law_told", defArgs (top 72), defBody (top 72), defScope (top 72), [], []⟩
def d18 : He.DefD := ⟨("sets", none), "sets", "sets", defArgs (top 29), defBody (top 29), defScope (top 29), [], []⟩
def d19 : He.DefD := ⟨("start_list", none), "start_list", "start_list", defArgs (top 31), defBody (top 31), defScope (top 31), [], []⟩
def d20 : He.DefD := ⟨("matches", none), "matches", "matches", defArgs (top 44), defBody (top 44), defScope (top 44), [], []⟩
def d21 : He.DefD := ⟨("growth", none), "growth", "growth", defArgs (top 35), defBody (top 35), defScope (top 35), [], []⟩
def d22 : He.DefD := ⟨("is_pump", none), "is_pump", "is_pump", defArgs (top 50), defBody (top 50), defScope (top 50), [], []⟩
def d23 : He.DefD := ⟨("check_both", none), "check_both", "check_both", defArgs (top 53), defBody (top 53), defScope (top 53), [], []⟩
def d24 : He.DefD := ⟨("same_language", none), "same_language", "same_language", defArgs (top 54), defBody (top 54), defScope (top 54), [], []⟩
def d25 : He.DefD := ⟨("simplify", none), "simplify", "simplify", defArgs (top 61), defBody (top 61), defScope (top 61), [], []⟩
def d26 : He.DefD := ⟨("to_text", none), "to_text", "to_text", defArgs (top 58), defBody (top 58), defScope (top 58), [], []⟩
def d27 : He.DefD := ⟨("Suite", some "__init__"), "__init__", "Suite.__init__", defArgs (mth 65 0), defBody (mth 65 0), defScope (mth 65 0), [], []⟩
def d28 : He.DefD := ⟨("_law_patterns_rejected", none), "_law_patterns_rejected", "_law_patterns_rejected", defArgs (top 77), defBody (top 77), defScope (top 77), [], []⟩
def d29 : He.DefD := ⟨("size", none), "size", "size", defArgs (top 62), defBody (top 62), defScope (top 62), [], []⟩
def d30 : He.DefD := ⟨("_law_size", none), "_law_size", "_law_size", defArgs (top 78), defBody (top 78), defScope (top 78), [], []⟩
def d31 : He.DefD := ⟨("_law_letters", none), "_law_letters", "_law_letters", defArgs (top 76), defBody (top 76), defScope (top 76), [], []⟩
def d32 : He.DefD := ⟨("_law_rounds", none), "_law_rounds", "_law_rounds", defArgs (top 70), defBody (top 70), defScope (top 70), [], []⟩
def d33 : He.DefD := ⟨("law", none), "law", "law", defArgs (top 79), defBody (top 79), defScope (top 79), [], []⟩
def fn : List He.DefD := [d0, d1, d2, d3, d4, d5, d6, d7, d8, d9, d10, d11, d12, d13, d14, d15, d16, d17, d18, d19, d20, d21, d22, d23, d24, d25, d26, d27, d28, d29, d30, d31, d32, d33]
def fa : List He.Fa := [.free "len", .glo "_law_cell", .glo "_law_drawn", .glo "_law_roll", .glo "_law_null", .free "range", .free "tuple", .glo "_law_draw", .glo "_law_pattern", .free "isinstance", .free "str", .str "LETTERS" "abc", .free "all", .free "zip", .glo "is_letters", .glo "has_shape", .glo "items_of", .free "any", .glo "nullable", .glo "stars_are_good", .free "sum", .glo "node_count", .glo "all_sets", .int "MOST_NODES" (16), .int "MOST_SETS" (8), .glo "is_pattern", .glo "BadPattern", .exc "BadPattern", .glo "check_pattern", .glo "is_nullable", .glo "BadText", .glo "BadWord", .glo "BadPosition", .glo "BadLength", .glo "BadDegree", .glo "BadBudget", .glo "BadSyntax", .glo "TooMany", .glo "NothingToUndo", .free "int", .free "ValueError", .glo "_law_term", .glo "StepError", .glo "_law_told", .glo "sets", .glo "start_list", .glo "matches", .glo "growth", .glo "is_pump", .glo "check_both", .glo "same_language", .glo "simplify", .glo "to_text", .glo "Suite", .mkr "Suite", .glo "_law_patterns_rejected", .glo "size", .glo "_law_size", .glo "_law_letters", .free "max", .free "min", .glo "_law_rounds", .glo "law"]
def tf : List He.Defn := [("_law_patterns_rejected", none)]
def tabs (K : PySem.W.Frag) : List (Addr × Str) := [((He.cT K ("_law_patterns_rejected", none)).2, (envOfC "_law_patterns_rejected" (defScope (top 77)) 0 0 .none).qual ++ "<lambda>")]
def djK (K : PySem.W.Frag) : Bool := true
def cs (K : PySem.W.Frag) : List (Addr × Addr) := tf.map (He.cT K)
structure Fx (K : PySem.W.Frag) (h : Heap) (mg : Str → Option Value) (base : Heap) : Prop where
  KX : K.In h
  G : h.Ns mainGlobals mg
  c : He.SaysD fa fn K
  ex : exB0 K = true
  TB : ∀ p ∈ cs K, TabB base mg p.1 p.2
  dj : djK K = true
abbrev RR : PySem.W.OpenRow := PySem.W.OpenLaw.row PySem.Challenge.rw_regexsteps_k01_whole_patterns
def exk (K : PySem.W.Frag) : Bool := exB0 K && djK K
abbrev hk : PySem.W.Hook := He.hookX 5 fa fn [] tf exk
def ob (s : PySem.W.SharedT) : He.AlX := He.obsX 5 fa fn [] tf exk (HandSHeadRun.getT s)
theorem ob_eq (s : PySem.W.SharedT) : ob s = hk.obs s.abs := He.obsX_eq (HandSHeadRun.getT_eq s)
def loose : List PySem.Str := (["_wall", "StepError", "BadPattern", "BadText", "BadWord", "BadPosition", "BadLength", "BadDegree", "BadBudget", "BadSyntax", "TooMany", "NothingToUndo", "LETTERS", "MOST_SETS", "MOST_NODES", "END", "is_integer", "is_letters", "has_shape", "items_of", "nullable", "all_sets", "node_count", "stars_are_good", "is_pattern", "check_pattern", "is_nullable", "sets", "Machine", "start_list"] : List PySem.Str) ++ (["search", "Graph", "growth", "MOST_TEXT", "CHARACTERS", "is_text", "is_word", "check_text", "Run", "run_of", "matches", "path_counts", "advanced", "counts_from", "are_words", "is_pump", "Both", "check_both", "same_language", "grouped", "written", "to_text", "reduced", "simplify", "size", "MOST_BUDGET", "Suite", "_law_cell", "_law_drawn", "_law_roll"] : List PySem.Str) ++ (["_law_rounds", "_law_term", "_law_told", "_law_null", "_law_draw", "_law_pattern", "_law_letters", "_law_patterns_rejected", "_law_size"] : List PySem.Str)
section
open PySem PySem.W PySem.Calls PyProof.Rows HandSHeadRun
theorem run0 (w : World) (os : OsState) : (endF (stepQ (denQ tabQ) RR.prog w) 20000 RR.prog w os).map (fun s => (looksF RR.prog (boot_heap w.params) s.abs, seenQ (view RR.prog [79]) loose (importedModules RR.prog.main.body) (fun s => xlAt (view RR.prog [79]) [] s && recOk RR.toRowW.records s) s.abs)) = some (true, openGood (view RR.prog [79]) loose) := by
  kernel_rfl
theorem run1 (w : World) (os : OsState) : (endF (stepQ (denQ tabQ) RR.prog w) 20000 RR.prog w os).map (fun s => He.obsX 5 (LW.fa.take 31) (LW.fn.take 17) [] [] (fun _ => true) (getT s)) = some (He.valX (LW.fn.take 17) [] w) := by
  kernel_rfl
theorem run2 (w : World) (os : OsState) : (endF (stepQ (denQ tabQ) RR.prog w) 20000 RR.prog w os).map (fun s => He.obsX 5 (LW.fa.drop 31) (LW.fn.drop 17) [] LW.tf exk (getT s)) = some (He.valX (LW.fn.drop 17) [] w) := by
  kernel_rfl
theorem run (w : World) : RunEq RR (view RR.prog [79]) hk ob 20000 loose w := fun os =>
  run_join (run0 w os) (run1 w os) (run2 w os) fun s h1 h2 => obs_join 31 17 h1 h2
end
end LW
set_option Elab.async false
set_option linter.all false
set_option maxRecDepth 100000
set_option maxHeartbeats 2000000
namespace DL
open PySem PySem.Spec PyProof.Rows L2
def noStar : Expr → Bool
  | .Starred .. => false
  | _ => true
theorem star_ok (e : Expr) (es : List Expr) (env : PySem.Env) (h : noStar e = true) : starEach (e :: es) env = (false, eval e env) :: starEach es env := by
  cases e <;> first | rfl | cases h
inductive D where
  | non | bl (b : Bool) | int (i : Int) | str (x : Str) | lst (xs : List D) | tup (xs : List D) | ins (c : Str) (ns : List Str) (xs : List D) | scr (ns : List Int) | raw (v : V)
  | dct (ks xs : List D)
  | wd (kvs : List (Str × Str))
  | exc (c : Str)
structure Tb where
  K : PySem.W.Frag
  cls : Str → Option Addr
  exc : Str → Option Addr
  tabs : List (Addr × Str)
  w : World
mutual
def keyOf : D → Option NestedKey
  | .non => some .none
  | .bl b => some (.num (if b = true then 1 else 0))
  | .int i => some (.num i)
  | .str x => some (.text x)
  | .tup xs => (keysOf xs).map .tup
  | _ => none
def keysOf : List D → Option (List NestedKey)
  | [] => some []
  | d :: r => (keyOf d).bind fun k => (keysOf r).map fun ks => k :: ks
end
structure Ent where
  k : NestedKey
  b : Addr
  v : V
def entHash (w : World) (k : NestedKey) : Int := k.hash w
def DctO (w : World) (a : Addr) (es : List Ent) (ep : Nat) : HO := .ext fun h => ∃ (o : Obj) (ar : Array DictEntry) (us : List Value), h.get? a = some o ∧ o.ExactDict ∧ o.data = .dict ar ep ∧ Vals (es.map (·.v)) us ∧
  ar.toList = (es.zip us).map (fun (q : Ent × Value) => (⟨entHash w q.1.k, .ref q.1.b, q.2⟩ : DictEntry)) ∧ (es.map (·.k)).Nodup ∧ es.length ≤ sizeLine ∧ (a == sysModules) = false ∧ ∀ e ∈ es, e.k.depth ≤ 8
def XO (cls : Value) (a : Addr) : HO := .ext fun h => ∃ (oe : Obj) (vs : Array Value), h.get? a = some oe ∧ Zc cls none oe ∧ oe.data = .fields vs
def wdK (kvs : List (Str × Str)) : List (Key × V) := kvs.map fun q => (.inr q.1, .str q.2)
mutual
inductive Rp (T : Tb) (F : Hp) : V → D → Prop
  | non : Rp T F .non .non
  | bl (b : Bool) : Rp T F (.bl b) (.bl b)
  | int (i : Int) : Rp T F (.int i) (.int i)
  | str (x : Str) : Rp T F (.str x) (.str x)
  | lst {a : Addr} {vs : List V} {ds : List D} : F a = some (.lst vs) → RpAll T F vs ds → Rp T F (.ref a) (.lst ds)
  | tup {a : Addr} {vs : List V} {ds : List D} : SqT T.K F a vs → RpAll T F vs ds → Rp T F (.ref a) (.tup ds)
  | ins {a C dx : Addr} {c : Str} {ns : List Str} {fs : List (Str × V)} {ds : List D} : T.cls c = some C → F a = some (.ins C dx fs) → fs.map (·.1) = ns → RpAll T F (fs.map (·.2)) ds → Rp T F (.ref a) (.ins c ns ds)
  | scr {a : Addr} {ns : List Int} : SqL T.K F a (ns.map V.int) → Rp T F (.ref a) (.scr ns)
  | raw (v : V) : Rp T F v (.raw v)
  | exc {a C : Addr} {c : Str} : T.exc c = some C → F a = some (XO (.ref C) a) → Rp T F (.ref a) (.exc c)
  | dct {a : Addr} {es : List Ent} {ep : Nat} {ks xs : List D} : F a = some (DctO T.w a es ep) → ks.map keyOf = es.map (fun e => some e.k) → RpAll T F (es.map fun e => .ref e.b) ks → RpAll T F (es.map (·.v)) xs → Rp T F (.ref a) (.dct ks xs)
  | wd {a : Addr} {kvs : List (Str × Str)} : F a = some (.dK (wdK kvs)) → Rp T F (.ref a) (.wd kvs)
inductive RpAll (T : Tb) (F : Hp) : List V → List D → Prop
  | nil : RpAll T F [] []
  | cons {v : V} {vs : List V} {d : D} {ds : List D} : Rp T F v d → RpAll T F vs ds → RpAll T F (v :: vs) (d :: ds)
end
def Le (F F' : Hp) : Prop := ∀ a o, F a = some o → F' a = some o
theorem Le.refl (F : Hp) : Le F F := fun _ _ h => h
theorem Le.trans {F F1 F2 : Hp} (a : Le F F1) (b : Le F1 F2) : Le F F2 := fun x o h => b x o (a x o h)
theorem Le.new {F : Hp} {p : Addr} {o : HO} (h : F p = none) : Le F (upd F p o) := fun a u e => by
  rw [upd_ne (ne_of_none e h)]
  exact e
theorem Le.rd {F F' : Hp} {a : Addr} {u : HO} (e : Le F F') (h : Rd F a u) : Rd F' a u := by
  rcases h with h | ⟨o, h⟩
  · exact Or.inl (e a _ h)
  · exact Or.inr ⟨o, e a _ h⟩
theorem Le.l {K : PySem.W.Frag} {F F' : Hp} {a : Addr} {xs : List V} (e : Le F F') (h : SqL K F a xs) : SqL K F' a xs := by
  rcases h with h | h
  · exact Or.inl (e.rd h)
  · exact Or.inr h
theorem Le.t {K : PySem.W.Frag} {F F' : Hp} {a : Addr} {xs : List V} (e : Le F F') (h : SqT K F a xs) : SqT K F' a xs := by
  rcases h with h | h
  · exact Or.inl (e.rd h)
  · exact Or.inr h
mutual
theorem Rp.mono {T : Tb} {F F' : Hp} (e : Le F F') : ∀ {v : V} {d : D}, Rp T F v d → Rp T F' v d
  | _, _, .non => .non
  | _, _, .bl b => .bl b
  | _, _, .int i => .int i
  | _, _, .str x => .str x
  | _, _, .lst h a => .lst (e _ _ h) (RpAll.mono e a)
  | _, _, .scr h => .scr (e.l h)
  | _, _, .raw v => .raw v
  | _, _, .exc c h => .exc c (e _ _ h)
  | _, _, .dct h k a b => .dct (e _ _ h) k (RpAll.mono e a) (RpAll.mono e b)
  | _, _, .wd h => .wd (e _ _ h)
  | _, _, .tup h a => .tup (e.t h) (RpAll.mono e a)
  | _, _, .ins c h n a => .ins c (e _ _ h) n (RpAll.mono e a)
theorem RpAll.mono {T : Tb} {F F' : Hp} (e : Le F F') : ∀ {vs : List V} {ds : List D}, RpAll T F vs ds → RpAll T F' vs ds
  | _, _, .nil => .nil
  | _, _, .cons h t => .cons (Rp.mono e h) (RpAll.mono e t)
end
section
variable {T : Tb} {F : Hp}
theorem RpAll.length : ∀ {vs : List V} {ds : List D}, RpAll T F vs ds → vs.length = ds.length
  | _, _, .nil => rfl
  | _, _, .cons _ t => by rw [List.length_cons, List.length_cons, RpAll.length t]
theorem RpAll.append : ∀ {vs us : List V} {ds es : List D}, RpAll T F vs ds → RpAll T F us es → RpAll T F (vs ++ us) (ds ++ es)
  | _, _, _, _, .nil, h => h
  | _, _, _, _, .cons h t, q => .cons h (RpAll.append t q)
theorem RpAll.get : ∀ {vs : List V} {ds : List D} {i : Nat} {d : D}, RpAll T F vs ds → ds[i]? = some d → ∃ v, vs[i]? = some v ∧ Rp T F v d
  | _, _, _, _, .nil, e => by simp at e
  | _, _, 0, _, .cons h _, e => by simp at e; subst e; exact ⟨_, rfl, h⟩
  | _, _, i + 1, d, .cons _ t, e => by
    obtain ⟨v, h1, h2⟩ := RpAll.get (i := i) (d := d) t (by simpa using e)
    exact ⟨v, by simpa using h1, h2⟩
theorem RpAll.set {v : V} {d : D} (r : Rp T F v d) : ∀ {vs : List V} {ds : List D} (i : Nat), RpAll T F vs ds → RpAll T F (vs.set i v) (ds.set i d)
  | _, _, _, .nil => .nil
  | _, _, 0, .cons _ t => .cons r t
  | _, _, i + 1, .cons q t => .cons q (RpAll.set r i t)
theorem RpAll.take : ∀ {vs : List V} {ds : List D} (n : Nat), RpAll T F vs ds → RpAll T F (vs.take n) (ds.take n)
  | _, _, 0, _ => .nil
  | _, _, _ + 1, .nil => .nil
  | _, _, n + 1, .cons r t => .cons r (RpAll.take n t)
theorem RpAll.drop : ∀ {vs : List V} {ds : List D} (n : Nat), RpAll T F vs ds → RpAll T F (vs.drop n) (ds.drop n)
  | _, _, 0, r => r
  | _, _, _ + 1, .nil => .nil
  | _, _, n + 1, .cons _ t => RpAll.drop n t
theorem RpAll.one {v : V} {d : D} (h : Rp T F v d) : RpAll T F [v] [d] := .cons h .nil
end
inductive RpKV (T : Tb) (F : Hp) : List (Key × V) → List (Int × D) → Prop
  | nil : RpKV T F [] []
  | cons {k : Int} {v : V} {d : D} {ps : List (Key × V)} {kvs : List (Int × D)} : Rp T F v d → RpKV T F ps kvs → RpKV T F ((Sum.inl k, v) :: ps) ((k, d) :: kvs)
theorem RpKV.mono {T : Tb} {F F' : Hp} (e : Le F F') : ∀ {ps : List (Key × V)} {kvs : List (Int × D)}, RpKV T F ps kvs → RpKV T F' ps kvs
  | _, _, .nil => .nil
  | _, _, .cons h t => .cons (h.mono e) (RpKV.mono e t)
def NoTbl (o : HO) : Prop := ∀ ps, o ≠ .tbl ps
inductive FS where
  | d (x : D) | l (xs : List D) | t (ks xs : List D)
inductive Own where
  | ol (xs : List D)
  | od (kvs : List (Int × D))
  | ot (ks xs : List D)
  | oz
  | oll (rows : List (List D))
  | oi (c : Str) (fs : List (Str × FS))
inductive Slot where
  | emp | dat (d : D) | own (o : Own) | lent (o : Own)
abbrev Env := List Slot
def DctAt (T : Tb) (F H : Hp) (q : Addr) (ks xs : List D) : Prop := ∃ es ep, H q = some (DctO T.w q es ep) ∧ ks.map keyOf = es.map (fun e => some e.k) ∧ RpAll T F (es.map fun e => .ref e.b) ks ∧ RpAll T F (es.map (·.v)) xs
theorem DctAt.mono {T : Tb} {F F' H H' : Hp} {q : Addr} {ks xs : List D} (e : Le F F') (k : H' q = H q) (h : DctAt T F H q ks xs) : DctAt T F' H' q ks xs := by
  obtain ⟨es, ep, h1, h2, h3, h4⟩ := h
  exact ⟨es, ep, by rw [k]; exact h1, h2, h3.mono e, h4.mono e⟩
def FldAt (T : Tb) (F H : Hp) : List (Str × V) → List (Str × FS) → List Addr → Prop
  | [], [], qs => qs = []
  | (x, v) :: r, (y, .d d) :: s, qs => x = y ∧ Rp T F v d ∧ FldAt T F H r s qs
  | (x, v) :: r, (y, .l ds) :: s, qs => x = y ∧ ∃ q qs' vs, qs = q :: qs' ∧ v = .ref q ∧ H q = some (.lst vs) ∧ RpAll T F vs ds ∧ FldAt T F H r s qs'
  | (x, v) :: r, (y, .t ks xs) :: s, qs => x = y ∧ ∃ q qs', qs = q :: qs' ∧ v = .ref q ∧ DctAt T F H q ks xs ∧ FldAt T F H r s qs'
  | _, _, _ => False
def RowsAt (T : Tb) (F H : Hp) : List Addr → List (List D) → Prop
  | [], [] => True
  | q :: qs, xs :: r => (∃ vs, H q = some (.lst vs) ∧ RpAll T F vs xs) ∧ RowsAt T F H qs r
  | _, _ => False
theorem RowsAt.mono {T : Tb} {F F' H H' : Hp} (e : Le F F') : ∀ {qs : List Addr} {rows : List (List D)}, (∀ a ∈ qs, H' a = H a) → RowsAt T F H qs rows → RowsAt T F' H' qs rows
  | [], [], _, _ => True.intro
  | [], _ :: _, _, h => h.elim
  | _ :: _, [], _, h => h.elim
  | q :: qs, xs :: r, k, h => by
    obtain ⟨⟨vs, h1, h2⟩, h3⟩ := h
    refine ⟨⟨vs, by rw [k q (List.mem_cons_self ..)]; exact h1, h2.mono e⟩, RowsAt.mono e (fun a ha => k a (List.mem_cons_of_mem _ ha)) h3⟩
theorem RowsAt.lst {T : Tb} {F H : Hp} {a : Addr} : ∀ {qs : List Addr} {rows : List (List D)}, RowsAt T F H qs rows → a ∈ qs → ∃ vs, H a = some (.lst vs)
  | [], _, _, ha => by cases ha
  | _ :: _, [], h, _ => h.elim
  | q :: qs, xs :: r, h, ha => by
    obtain ⟨⟨vs, h1, h2⟩, h3⟩ := h
    rcases List.mem_cons.mp ha with z | z
    · rw [z]; exact ⟨vs, h1⟩
    · exact RowsAt.lst h3 z
def OwnAt (T : Tb) (F H : Hp) (p : Addr) : Own → List Addr → Prop
  | .ol xs, fp => fp = [p] ∧ ∃ vs, H p = some (.lst vs) ∧ RpAll T F vs xs
  | .od kvs, fp => fp = [p] ∧ ∃ ps, H p = some (.dK ps) ∧ RpKV T F ps kvs
  | .oz, fp => fp = []
  | .oll rows, fp => ∃ qs, fp = p :: qs ∧ fp.Nodup ∧ H p = some (.lst (qs.map .ref)) ∧ RowsAt T F H qs rows
  | .ot ks xs, fp => fp = [p] ∧ DctAt T F H p ks xs
  | .oi c fs, fp => ∃ C dx us qs, T.cls c = some C ∧ fp = p :: dx :: qs ∧ H p = some (.ins C dx us) ∧ H dx = some (.own p) ∧ FldAt T F H us fs qs ∧ qs.Nodup
def SlotAt (T : Tb) (F H : Hp) (x : Option (Option V)) : Slot → List Addr → Prop
  | .emp, fp => fp = []
  | .dat d, fp => fp = [] ∧ ∃ v, x = some (some v) ∧ Rp T F v d
  | .own o, fp => ∃ p, x = some (some (.ref p)) ∧ OwnAt T F H p o fp
  | .lent o, fp => ∃ p, x = some (some (.ref p)) ∧ OwnAt T F H p o fp
theorem FldAt.mono {T : Tb} {F F' H H' : Hp} (e : Le F F') : ∀ {us : List (Str × V)} {fs : List (Str × FS)} {qs : List Addr}, (∀ a ∈ qs, H' a = H a) → FldAt T F H us fs qs → FldAt T F' H' us fs qs
  | [], [], _, _, h => h
  | [], _ :: _, _, _, h => h.elim
  | _ :: _, [], _, _, h => h.elim
  | (x, v) :: r, (y, .d d) :: s, qs, k, h => ⟨h.1, h.2.1.mono e, FldAt.mono e k h.2.2⟩
  | (x, v) :: r, (y, .l ds) :: s, qs, k, h => by
    obtain ⟨h1, q, qs', vs, rfl, h2, h3, h4, h5⟩ := h
    refine ⟨h1, q, qs', vs, rfl, h2, ?_, h4.mono e, FldAt.mono e (fun a ha => k a (List.mem_cons_of_mem _ ha)) h5⟩
    rw [k q (List.mem_cons_self ..)]
    exact h3
  | (x, v) :: r, (y, .t ks xs) :: s, qs, k, h => by
    obtain ⟨h1, q, qs', rfl, h2, h3, h5⟩ := h
    exact ⟨h1, q, qs', rfl, h2, h3.mono e (k q (List.mem_cons_self ..)), FldAt.mono e (fun a ha => k a (List.mem_cons_of_mem _ ha)) h5⟩
theorem dctO_ne {w : World} {a c : Addr} {es : List Ent} {ep : Nat} {q : Str} : DctO w a es ep ≠ LamX.CodeO c q := fun e => by
  have e1 : (fun h : Heap => ∃ (o : Obj) (ar : Array DictEntry) (us : List Value), h.get? a = some o ∧ o.ExactDict ∧ o.data = .dict ar ep ∧ Vals (es.map (·.v)) us ∧
  ar.toList = (es.zip us).map (fun (q : Ent × Value) => (⟨entHash w q.1.k, .ref q.1.b, q.2⟩ : DictEntry)) ∧ (es.map (·.k)).Nodup ∧ es.length ≤ sizeLine ∧ (a == sysModules) = false ∧ ∀ e ∈ es, e.k.depth ≤ 8) = (fun h => ∃ (oc : Obj) (vs : Array Value) (t : Tok), h.get? c = some oc ∧ oc.data = .fields vs ∧ vs[1]? = some (.str q t)) := by
    unfold DctO LamX.CodeO at e
    injection e
  have hg : ∀ b o, (⟨Array.replicate (c + 1) ⟨.none, none, .fields #[.none, .str q 0], #[]⟩, {}⟩ : Heap).get? b = some o → o.data = .fields #[.none, .str q 0] := fun b o h => by
    unfold Heap.get? at h
    rw [Array.getElem?_replicate] at h
    by_cases hb : b < c + 1
    · rw [if_pos hb] at h
      cases h
      rfl
    · rw [if_neg hb] at h
      cases h
  have h2 : (⟨Array.replicate (c + 1) ⟨.none, none, .fields #[.none, .str q 0], #[]⟩, {}⟩ : Heap).get? c = some ⟨.none, none, .fields #[.none, .str q 0], #[]⟩ := by
    unfold Heap.get?
    rw [Array.getElem?_replicate, if_pos (Nat.lt_succ_self c)]
  have h3 := congrFun e1 (⟨Array.replicate (c + 1) ⟨.none, none, .fields #[.none, .str q 0], #[]⟩, {}⟩ : Heap)
  have h4 : ∃ (oc : Obj) (vs : Array Value) (t : Tok), (⟨Array.replicate (c + 1) ⟨.none, none, .fields #[.none, .str q 0], #[]⟩, {}⟩ : Heap).get? c = some oc ∧ oc.data = .fields vs ∧ vs[1]? = some (.str q t) := ⟨_, _, 0, h2, rfl, rfl⟩
  rw [← h3] at h4
  obtain ⟨o, ar, us, g1, g2, g3, _⟩ := h4
  rw [hg a o g1] at g3
  cases g3
def OwnK (o : HO) : Prop := (match o with
  | .lst _ | .dK _ | .ins _ _ _ | .own _ => True
  | _ => False) ∨ ∃ w a es ep, o = DctO w a es ep
theorem OwnK.notb {o : HO} (h : OwnK o) : NoTbl o := fun ps e => by
  rw [e] at h
  rcases h with h | ⟨w, a, es, ep, h⟩
  · exact h
  · cases h
theorem OwnK.notbl {ps : Array Value} (h : OwnK (.tbl ps)) : False := h.notb ps rfl
theorem OwnK.noext {c : Addr} {q : Str} (h : OwnK (LamX.CodeO c q)) : False := by
  rcases h with h | ⟨w, a, es, ep, h⟩
  · exact h
  · exact dctO_ne h.symm
theorem fldAt_kind {T : Tb} {F H : Hp} : ∀ {us : List (Str × V)} {fs : List (Str × FS)} {qs : List Addr} {a : Addr}, FldAt T F H us fs qs → a ∈ qs → ∃ u, H a = some u ∧ OwnK u
  | [], [], _, _, h, ha => by
    have e : _ = [] := h
    rw [e] at ha
    cases ha
  | [], _ :: _, _, _, h, _ => h.elim
  | _ :: _, [], _, _, h, _ => h.elim
  | (x, v) :: r, (y, .d d) :: s, qs, a, h, ha => fldAt_kind h.2.2 ha
  | (x, v) :: r, (y, .l ds) :: s, qs, a, h, ha => by
    obtain ⟨h1, q, qs', vs, rfl, h2, h3, h4, h5⟩ := h
    rcases List.mem_cons.mp ha with z | z
    · rw [z]
      exact ⟨_, h3, .inl True.intro⟩
    · exact fldAt_kind h5 z
  | (x, v) :: r, (y, .t ks xs) :: s, qs, a, h, ha => by
    obtain ⟨h1, q, qs', rfl, h2, ⟨es, ep, h3, _⟩, h5⟩ := h
    rcases List.mem_cons.mp ha with z | z
    · rw [z]
      exact ⟨_, h3, .inr ⟨_, _, _, _, rfl⟩⟩
    · exact fldAt_kind h5 z
theorem ownAt_kind {T : Tb} {F H : Hp} {p : Addr} {o : Own} {fp : List Addr} {a : Addr} (h : OwnAt T F H p o fp) (ha : a ∈ fp) : ∃ u, H a = some u ∧ OwnK u := by
  cases o with
  | ol xs =>
    obtain ⟨e, vs, q1, _⟩ := h
    rw [e] at ha
    rcases List.mem_cons.mp ha with z | z
    · rw [z]; exact ⟨_, q1, .inl True.intro⟩
    · cases z
  | od kvs =>
    obtain ⟨e, vs, q1, _⟩ := h
    rw [e] at ha
    rcases List.mem_cons.mp ha with z | z
    · rw [z]; exact ⟨_, q1, .inl True.intro⟩
    · cases z
  | oz =>
    have e : fp = [] := h
    rw [e] at ha
    cases ha
  | oll rows =>
    obtain ⟨qs, e, _, q1, q2⟩ := h
    rw [e] at ha
    rcases List.mem_cons.mp ha with z | z
    · rw [z]; exact ⟨_, q1, .inl True.intro⟩
    · obtain ⟨vs, h1⟩ := q2.lst z
      exact ⟨_, h1, .inl True.intro⟩
  | ot ks xs =>
    obtain ⟨e, es, ep, q1, _⟩ := h
    rw [e] at ha
    rcases List.mem_cons.mp ha with z | z
    · rw [z]; exact ⟨_, q1, .inr ⟨_, _, _, _, rfl⟩⟩
    · cases z
  | oi c fs =>
    obtain ⟨C, dx, us, qs, _, e, q1, q2, q3⟩ := h
    rw [e] at ha
    rcases List.mem_cons.mp ha with z | z
    · rw [z]; exact ⟨_, q1, .inl True.intro⟩
    · rcases List.mem_cons.mp z with z | z
      · rw [z]; exact ⟨_, q2, .inl True.intro⟩
      · exact fldAt_kind q3.1 z
theorem OwnAt.mono {T : Tb} {F F' H H' : Hp} {p : Addr} {o : Own} {fp : List Addr} (e : Le F F') (k : ∀ a ∈ fp, H' a = H a) (h : OwnAt T F H p o fp) : OwnAt T F' H' p o fp := by
  cases o with
  | ol xs =>
    obtain ⟨rfl, vs, h1, h2⟩ := h
    exact ⟨rfl, vs, by rw [k p (List.mem_cons_self ..)]; exact h1, h2.mono e⟩
  | od kvs =>
    obtain ⟨rfl, us, h1, h2⟩ := h
    exact ⟨rfl, us, by rw [k p (List.mem_cons_self ..)]; exact h1, h2.mono e⟩
  | oz => exact h
  | oll rows =>
    obtain ⟨qs, rfl, nd, h1, h2⟩ := h
    exact ⟨qs, rfl, nd, by rw [k p (List.mem_cons_self ..)]; exact h1, h2.mono e fun a ha => k a (List.mem_cons_of_mem _ ha)⟩
  | ot ks xs =>
    obtain ⟨rfl, h1⟩ := h
    exact ⟨rfl, h1.mono e (k p (List.mem_cons_self ..))⟩
  | oi c fs =>
    obtain ⟨C, dx, us, qs, h0, rfl, h1, h2, h3⟩ := h
    refine ⟨C, dx, us, qs, h0, rfl, ?_, ?_, h3.1.mono e fun a ha => k a (List.mem_cons_of_mem _ (List.mem_cons_of_mem _ ha)), h3.2⟩
    · rw [k p (List.mem_cons_self ..)]
      exact h1
    · rw [k dx (List.mem_cons_of_mem _ (List.mem_cons_self ..))]
      exact h2
theorem SlotAt.mono {T : Tb} {F F' H H' : Hp} {x : Option (Option V)} {s : Slot} {fp : List Addr} (e : Le F F') (k : ∀ a ∈ fp, H' a = H a) (h : SlotAt T F H x s fp) : SlotAt T F' H' x s fp := by
  cases s with
  | emp => exact h
  | dat d => exact ⟨h.1, h.2.choose, h.2.choose_spec.1, h.2.choose_spec.2.mono e⟩
  | own o =>
    obtain ⟨p, h1, h2⟩ := h
    exact ⟨p, h1, h2.mono e k⟩
  | lent o =>
    obtain ⟨p, h1, h2⟩ := h
    exact ⟨p, h1, h2.mono e k⟩
structure Gd where
  T : Tb
  H0 : Hp
  F0 : Hp
  OA : List Addr
  V0 : L2.St
structure TabsX (L : List (Addr × Str)) (H : Hp) : Prop where
  tabs : LamX.Tabs L H
  only : ∀ a ps, H a = some (.tbl ps) → True
theorem TabsX.ext {L : List (Addr × Str)} {H H' : Hp} (h : TabsX L H) (k : ∀ b u, H b = some u → H' b = some u) (n : ∀ b ps, H' b = some (.tbl ps) → H b = some (.tbl ps)) : TabsX L H' := ⟨h.tabs.ext k, fun a ps e => h.only a ps (n a ps e)⟩
theorem upd_tbl {H : Hp} {p b : Addr} {o : HO} {ps : Array Value} (n : NoTbl o) (e : upd H p o b = some (.tbl ps)) : H b = some (.tbl ps) := by
  by_cases z : b = p
  · rw [z, upd_same] at e
    cases e
    exact absurd rfl (n ps)
  · rw [upd_ne z] at e
    exact e
structure SR (S : Gd) (σ : L2.St) (H F : Hp) (env : Env) (ad : Nat → List Addr) : Prop where
  len : σ.length = env.length
  sub : Le F H
  at_ : ∀ (i : Nat) (s : Slot), env[i]? = some s → SlotAt S.T F H σ[i]? s (ad i)
  out : ∀ i, env.length ≤ i → ad i = []
  dis : ∀ i j a, a ∈ ad i → a ∈ ad j → i = j
  mine : ∀ i a, a ∈ ad i → F a = none ∧ (S.H0 a = none ∨ a ∈ S.OA)
  keep : ∀ a o, a ∉ S.OA → S.H0 a = some o → NoTbl o → H a = some o
  tab : TabsX S.T.tabs H
  notb : ∀ a o, F a = some o → NoTbl o
  old : ∀ a o, F a = some o → S.F0 a = some o ∨ S.H0 a = none ∨ a ∈ S.OA
  le0 : Le S.F0 F
  dom : ∀ a, H a = none → S.H0 a = none
  fix : ∀ (i : Nat) (o : Own), env[i]? = some (Slot.lent o) → σ[i]? = S.V0[i]?
section
variable {S : Gd} {σ : L2.St} {H F : Hp} {env : Env} {ad : Nat → List Addr}
def setA (ad : Nat → List Addr) (i : Nat) (fp : List Addr) : Nat → List Addr := fun j => if j = i then fp else ad j
theorem setA_same {i : Nat} {fp : List Addr} : setA ad i fp i = fp := by unfold setA; rw [if_pos rfl]
theorem setA_ne {i j : Nat} {fp : List Addr} (h : j ≠ i) : setA ad i fp j = ad j := by unfold setA; rw [if_neg h]
theorem get_set_same {α : Type} {l : List α} {i : Nat} {x y : α} (h : (l.set i x)[i]? = some y) : y = x := by
  rw [List.getElem?_set] at h
  simp only [if_true] at h
  split at h
  · exact (Option.some.inj h).symm
  · cases h
theorem get_set_ne {α : Type} {l : List α} {i j : Nat} {x : α} (h : j ≠ i) : (l.set i x)[j]? = l[j]? := by
  rw [List.getElem?_set]
  rw [if_neg (fun e => h e.symm)]
theorem get_set_lt {α : Type} {l : List α} {i : Nat} {x : α} (h : i < l.length) : (l.set i x)[i]? = some x := by
  rw [List.getElem?_set]
  simp [h]
theorem SR.lt (h : SR S σ H F env ad) {i : Nat} {s : Slot} (e : env[i]? = some s) : i < σ.length := by
  rw [h.len]
  exact (List.getElem?_eq_some_iff.mp e).1
theorem SR.kind (h : SR S σ H F env ad) {i : Nat} {a : Addr} (hi : a ∈ ad i) : ∃ u, H a = some u ∧ OwnK u := by
  have hlt : i < env.length := by
    apply Nat.lt_of_not_le
    intro z
    rw [h.out i z] at hi
    cases hi
  have q := h.at_ i _ (List.getElem?_eq_getElem hlt)
  generalize env[i] = s at q
  cases s with
  | emp =>
    have q2 : ad i = [] := q
    rw [q2] at hi
    cases hi
  | dat d =>
    rw [q.1] at hi
    cases hi
  | own ow =>
    obtain ⟨b, _, q⟩ := q
    exact ownAt_kind q hi
  | lent ow =>
    obtain ⟨b, _, q⟩ := q
    exact ownAt_kind q hi
theorem SR.somes (h : SR S σ H F env ad) {i : Nat} {a : Addr} (hi : a ∈ ad i) : H a ≠ none := by
  obtain ⟨u, e, _⟩ := h.kind hi
  rw [e]
  exact fun z => by cases z
theorem SR.fnone (h : SR S σ H F env ad) {p : Addr} (hp : H p = none) : F p = none := by
  cases q : F p with
  | none => rfl
  | some u => rw [h.sub p u q] at hp; cases hp
theorem SR.alloc (h : SR S σ H F env ad) {p : Addr} {o : HO} (hp : H p = none) (ho : NoTbl o) : SR S σ (upd H p o) (upd F p o) env ad ∧ Le F (upd F p o) := by
  have fp : F p = none := h.fnone hp
  have le : Le F (upd F p o) := Le.new fp
  have np : ∀ i a, a ∈ ad i → a ≠ p := fun i a hi z => h.somes hi (z ▸ hp)
  refine ⟨⟨h.len, ?_, fun i s e => (h.at_ i s e).mono le fun a ha => upd_ne (np i a ha), h.out, h.dis, fun i a ha => ?_, fun a u na e nt => ?_, h.tab.ext (fun b u e => ?_) (fun b ps e => upd_tbl ho e), fun a u e => ?_, fun a u e => ?_, h.le0.trans le, fun a e => ?_, h.fix⟩, le⟩
  · intro a u e
    by_cases z : a = p
    · rw [z, upd_same] at e ⊢
      exact e
    · rw [upd_ne z] at e ⊢
      exact h.sub a u e
  · obtain ⟨m1, m2⟩ := h.mine i a ha
    exact ⟨by rw [upd_ne (np i a ha)]; exact m1, m2⟩
  · have q := h.keep a u na e nt
    rw [upd_ne (ne_of_none q hp)]
    exact q
  · rw [upd_ne (ne_of_none e hp)]
    exact e
  · by_cases z : a = p
    · rw [z, upd_same] at e
      cases e
      exact ho
    · rw [upd_ne z] at e
      exact h.notb a u e
  · by_cases z : a = p
    · rw [z]
      exact .inr (.inl (h.dom p hp))
    · rw [upd_ne z] at e
      exact h.old a u e
  · by_cases z : a = p
    · rw [z, upd_same] at e
      cases e
    · rw [upd_ne z] at e
      exact h.dom a e
theorem SR.more (h : SR S σ H F env ad) {p : Addr} {o : HO} (hp : H p = none) (ho : NoTbl o := by exact fun _ z => by cases z) : SR S σ (upd H p o) F env ad := by
  have np : ∀ i a, a ∈ ad i → a ≠ p := fun i a hi z => h.somes hi (z ▸ hp)
  refine ⟨h.len, fun a u e => ?_, fun i s e => (h.at_ i s e).mono (Le.refl F) fun a ha => upd_ne (np i a ha), h.out, h.dis, h.mine, fun a u na e nt => ?_, h.tab.ext (fun b u e => ?_) (fun b ps e => upd_tbl ho e), h.notb, h.old, h.le0, fun a e => ?_, h.fix⟩
  · have q := h.sub a u e
    rw [upd_ne (ne_of_none q hp)]
    exact q
  · have q := h.keep a u na e nt
    rw [upd_ne (ne_of_none q hp)]
    exact q
  · rw [upd_ne (ne_of_none e hp)]
    exact e
  · by_cases z : a = p
    · rw [z, upd_same] at e
      cases e
    · rw [upd_ne z] at e
      exact h.dom a e
def isLent : Slot → Bool
  | .lent _ => true
  | _ => false
theorem SR.put (h : SR S σ H F env ad) (i : Nat) (x : Option V) (s : Slot) (fp : List Addr) (nl : isLent s = false) (hs : i < env.length → SlotAt S.T F H (some x) s fp) (ho : env.length ≤ i → fp = []) (hd : ∀ j a, j ≠ i → a ∈ fp → a ∉ ad j) (hm : ∀ a ∈ fp, F a = none ∧ (S.H0 a = none ∨ a ∈ S.OA)) :
    SR S (σ.set i x) H F (env.set i s) (setA ad i fp) := by
  refine ⟨by rw [List.length_set, List.length_set, h.len], h.sub, fun j t e => ?_, fun j hj => ?_, fun j k a hj hk => ?_, fun j a hj => ?_, h.keep, h.tab, h.notb, h.old, h.le0, h.dom, fun j o e => ?_⟩
  · by_cases z : j = i
    · subst z
      have lt : j < env.length := by
        have q := (List.getElem?_eq_some_iff.mp e).1
        rwa [List.length_set] at q
      rw [get_set_same e, setA_same, get_set_lt (by rw [h.len]; exact lt)]
      exact hs lt
    · rw [get_set_ne z] at e
      rw [setA_ne z, get_set_ne z]
      exact h.at_ j t e
  · rw [List.length_set] at hj
    by_cases z : j = i
    · subst z
      rw [setA_same]
      exact ho hj
    · rw [setA_ne z]
      exact h.out j hj
  · by_cases z : j = i
    · by_cases y : k = i
      · rw [z, y]
      · rw [z, setA_same] at hj
        rw [setA_ne y] at hk
        exact absurd hk (hd k a y hj)
    · by_cases y : k = i
      · rw [setA_ne z] at hj
        rw [y, setA_same] at hk
        exact absurd hj (hd j a z hk)
      · rw [setA_ne z] at hj
        rw [setA_ne y] at hk
        exact h.dis j k a hj hk
  · by_cases z : j = i
    · rw [z, setA_same] at hj
      exact hm a hj
    · rw [setA_ne z] at hj
      exact h.mine j a hj
  · by_cases z : j = i
    · subst z
      rw [← get_set_same e] at nl
      cases nl
    · rw [get_set_ne z] at e ⊢
      exact h.fix j o e
theorem SR.store (h : SR S σ H F env ad) (i : Nat) {v : V} {d : D} (r : Rp S.T F v d) : SR S (σ.set i (some v)) H F (env.set i (.dat d)) (setA ad i []) :=
  h.put i (some v) (.dat d) [] rfl (fun _ => ⟨rfl, v, rfl, r⟩) (fun _ => rfl) (fun _ _ _ z => by cases z) (fun _ z => by cases z)
theorem SR.drop (h : SR S σ H F env ad) (i : Nat) (x : Option V) : SR S (σ.set i x) H F (env.set i .emp) (setA ad i []) :=
  h.put i x .emp [] rfl (fun _ => rfl) (fun _ => rfl) (fun _ _ _ z => by cases z) (fun _ z => by cases z)
theorem set_self {α : Type} : ∀ {l : List α} {i : Nat} {x : α}, l[i]? = some x → l.set i x = l
  | [], _, _, e => by simp at e
  | y :: l, 0, x, e => by simp at e; rw [e]; rfl
  | y :: l, i + 1, x, e => by
    show y :: l.set i x = y :: l
    rw [set_self (by simpa using e)]
def Slot.ow : Slot → Option Own
  | .own o | .lent o => some o
  | _ => none
def Slot.re : Slot → Own → Slot
  | .lent _, o => .lent o
  | _, o => .own o
theorem SlotAt.ow {T : Tb} {x : Option (Option V)} {s : Slot} {o : Own} {fp : List Addr} (h : SlotAt T F H x s fp) (e : s.ow = some o) : ∃ p, x = some (some (.ref p)) ∧ OwnAt T F H p o fp := by
  cases s with
  | emp => cases e
  | dat d => cases e
  | own o' => cases e; exact h
  | lent o' => cases e; exact h
theorem SlotAt.re {T : Tb} {x : Option (Option V)} {s : Slot} {o : Own} {fp : List Addr} {p : Addr} (hx : x = some (some (.ref p))) (h : OwnAt T F H p o fp) : SlotAt T F H x (s.re o) fp := by
  cases s with
  | emp => exact ⟨p, hx, h⟩
  | dat d => exact ⟨p, hx, h⟩
  | own o' => exact ⟨p, hx, h⟩
  | lent o' => exact ⟨p, hx, h⟩
theorem SR.mut (h : SR S σ H F env ad) {i : Nat} {s : Slot} {o' : Own} {p : Addr} {H' : Hp} (hs : env[i]? = some s) (hp : σ[i]? = some (some (.ref p))) (k : ∀ a, a ∉ ad i → H' a = H a) (hn : ∀ a, H' a = none → H a = none)
    (new : OwnAt S.T F H' p o' (ad i)) : SR S σ H' F (env.set i (s.re o')) ad := by
  refine ⟨by rw [List.length_set, h.len], fun a u e => ?_, fun j t e => ?_, fun j hj => ?_, h.dis, h.mine, fun a u na e nt => ?_, ⟨fun q hq => ?_, fun a ps e => h.tab.only a ps ?_⟩, h.notb, h.old, h.le0, fun a e => h.dom a (hn a e), fun j o e => ?_⟩
  · rw [k a fun z => by rw [(h.mine i a z).1] at e; cases e]
    exact h.sub a u e
  · by_cases z : j = i
    · subst z
      rw [get_set_same e]
      exact SlotAt.re hp new
    · rw [get_set_ne z] at e
      exact (h.at_ j t e).mono (Le.refl F) fun a ha => k a fun y => z (h.dis j i a ha y)
  · rw [List.length_set] at hj
    exact h.out j hj
  · have q := h.keep a u na e nt
    rw [k a fun z => ?_]
    · exact q
    · rcases (h.mine i a z).2 with y | y
      · rw [e] at y; cases y
      · exact na y
  · obtain ⟨ps, t1, t2, t3⟩ := h.tab.tabs q hq
    refine ⟨ps, ?_, t2, fun pos cv hc => ?_⟩
    · rw [k q.1 fun z => ?_]
      · exact t1
      · obtain ⟨u, e1, e2⟩ := h.kind z
        rw [t1] at e1
        cases e1
        exact e2.notbl
    · obtain ⟨c, e1, e2⟩ := t3 pos cv hc
      refine ⟨c, e1, ?_⟩
      rw [k c fun z => ?_]
      · exact e2
      · obtain ⟨u, f1, f2⟩ := h.kind z
        rw [e2] at f1
        cases f1
        exact f2.noext
  · rw [← k a fun z => ?_]
    · exact e
    · obtain ⟨u, f1, f2⟩ := ownAt_kind new z
      rw [e] at f1
      cases f1
      exact f2.notbl
  · by_cases z : j = i
    · subst z
      have e1 := get_set_same e
      cases s with
      | lent o2 => exact h.fix j o2 hs
      | _ => cases e1
    · rw [get_set_ne z] at e
      exact h.fix j o e
theorem SR.frz (h : SR S σ H F env ad) {i : Nat} {v : V} {d : D} (hv : σ[i]? = some (some v)) (hl : ∀ s, env[i]? = some s → isLent s = false) (r : Rp S.T (fun a => if a ∈ ad i then H a else F a) v d) :
    SR S σ H (fun a => if a ∈ ad i then H a else F a) (env.set i (.dat d)) (setA ad i []) ∧ Le F (fun a => if a ∈ ad i then H a else F a) := by
  have le : Le F (fun a => if a ∈ ad i then H a else F a) := fun a u e => by
    have n : a ∉ ad i := fun z => by rw [(h.mine i a z).1] at e; cases e
    show (if a ∈ ad i then H a else F a) = some u
    rw [if_neg n]
    exact e
  have h1 : SR S σ H (fun a => if a ∈ ad i then H a else F a) (env.set i .emp) (setA ad i []) := by
    have e0 : σ.set i (some v) = σ := set_self hv
    have h0 := h.drop i (some v)
    rw [e0] at h0
    refine ⟨h0.len, fun a u e => ?_, fun j s e => (h0.at_ j s e).mono le fun _ _ => rfl, h0.out, h0.dis, fun j a ha => ?_, h0.keep, h0.tab, fun a u e => ?_, fun a u e => ?_, h.le0.trans le, h0.dom, h0.fix⟩
    · have e2 : (if a ∈ ad i then H a else F a) = some u := e
      by_cases z : a ∈ ad i
      · rw [if_pos z] at e2; exact e2
      · rw [if_neg z] at e2; exact h.sub a u e2
    · refine ⟨?_, (h0.mine j a ha).2⟩
      show (if a ∈ ad i then H a else F a) = none
      by_cases z : j = i
      · rw [z, setA_same] at ha; cases ha
      · rw [setA_ne z] at ha
        rw [if_neg fun y => z (h.dis j i a ha y)]
        exact (h.mine j a ha).1
    · have e2 : (if a ∈ ad i then H a else F a) = some u := e
      by_cases z : a ∈ ad i
      · rw [if_pos z] at e2
        obtain ⟨w, e3, e4⟩ := h.kind z
        rw [e2] at e3
        cases e3
        exact e4.notb
      · rw [if_neg z] at e2; exact h.notb a u e2
    · have e2 : (if a ∈ ad i then H a else F a) = some u := e
      by_cases z : a ∈ ad i
      · exact .inr ((h.mine i a z).2)
      · rw [if_neg z] at e2; exact h.old a u e2
  have h2 := h1.store i r
  have e0 : σ.set i (some v) = σ := set_self hv
  rw [e0, List.set_set] at h2
  have e3 : setA (setA ad i []) i [] = setA ad i [] := by
    funext j
    unfold setA
    split <;> rfl
  rw [e3] at h2
  exact ⟨h2, le⟩
def FS.dat : FS → D
  | .d x => x
  | .l xs => .lst xs
  | .t ks xs => .dct ks xs
def Own.dat? : Own → Option D
  | .ol xs => some (.lst xs)
  | .od _ => none
  | .oz => none
  | .oll rows => some (.lst (rows.map .lst))
  | .ot ks xs => some (.dct ks xs)
  | .oi c fs => some (.ins c (fs.map (·.1)) (fs.map (·.2.dat)))
theorem fld_rp {T : Tb} {F G H : Hp} (le : Le F G) : ∀ {us : List (Str × V)} {fs : List (Str × FS)} {qs : List Addr}, FldAt T F H us fs qs → (∀ a ∈ qs, G a = H a) → us.map (·.1) = fs.map (·.1) ∧ RpAll T G (us.map (·.2)) (fs.map (·.2.dat))
  | [], [], _, h, _ => ⟨rfl, .nil⟩
  | [], _ :: _, _, h, _ => h.elim
  | _ :: _, [], _, h, _ => h.elim
  | (x, v) :: r, (y, .d d) :: s, qs, h, k => by
    obtain ⟨h1, h2, h3⟩ := h
    obtain ⟨q1, q2⟩ := fld_rp le h3 k
    refine ⟨?_, .cons (h2.mono le) q2⟩
    rw [List.map_cons, List.map_cons, q1, h1]
  | (x, v) :: r, (y, .l ds) :: s, qs, h, k => by
    obtain ⟨h1, q, qs', vs, rfl, h2, h3, h4, h5⟩ := h
    obtain ⟨q1, q2⟩ := fld_rp le h5 fun a ha => k a (List.mem_cons_of_mem _ ha)
    refine ⟨?_, .cons ?_ q2⟩
    · rw [List.map_cons, List.map_cons, q1, h1]
    · rw [h2]
      exact .lst (by rw [k q (List.mem_cons_self ..)]; exact h3) (h4.mono le)
  | (x, v) :: r, (y, .t ks xs) :: s, qs, h, k => by
    obtain ⟨h1, q, qs', rfl, h2, ⟨es, ep, h3, g1, g2, g3⟩, h5⟩ := h
    obtain ⟨q1, q2⟩ := fld_rp le h5 fun a ha => k a (List.mem_cons_of_mem _ ha)
    refine ⟨?_, .cons ?_ q2⟩
    · rw [List.map_cons, List.map_cons, q1, h1]
    · rw [h2]
      exact .dct (by rw [k q (List.mem_cons_self ..)]; exact h3) g1 (g2.mono le) (g3.mono le)
theorem rows_rp {T : Tb} {F G H : Hp} (le : Le F G) : ∀ {qs : List Addr} {rows : List (List D)}, RowsAt T F H qs rows → (∀ a ∈ qs, G a = H a) → RpAll T G (qs.map .ref) (rows.map .lst)
  | [], [], _, _ => .nil
  | [], _ :: _, h, _ => h.elim
  | _ :: _, [], h, _ => h.elim
  | q :: qs, xs :: r, h, k => by
    obtain ⟨⟨vs, h1, h2⟩, h3⟩ := h
    exact .cons (.lst (by rw [k q (List.mem_cons_self ..)]; exact h1) (h2.mono le)) (rows_rp le h3 fun a ha => k a (List.mem_cons_of_mem _ ha))
theorem own_rp {T : Tb} {F G H : Hp} {p : Addr} {o : Own} {d : D} {fp : List Addr} (le : Le F G) (h : OwnAt T F H p o fp) (k : ∀ a ∈ fp, G a = H a) (e : o.dat? = some d) : Rp T G (.ref p) d := by
  cases o with
  | ol xs =>
    cases e
    obtain ⟨rfl, vs, h1, h2⟩ := h
    exact .lst (by rw [k p (List.mem_cons_self ..)]; exact h1) (h2.mono le)
  | od kvs => cases e
  | oz => cases e
  | oll rows =>
    cases e
    obtain ⟨qs, rfl, nd, h1, h2⟩ := h
    exact .lst (by rw [k p (List.mem_cons_self ..)]; exact h1) (rows_rp le h2 fun a ha => k a (List.mem_cons_of_mem _ ha))
  | ot ks xs =>
    cases e
    obtain ⟨rfl, es, ep, h3, g1, g2, g3⟩ := h
    exact .dct (by rw [k p (List.mem_cons_self ..)]; exact h3) g1 (g2.mono le) (g3.mono le)
  | oi c fs =>
    cases e
    obtain ⟨C, dx, us, qs, h0, rfl, h1, h2, h3⟩ := h
    obtain ⟨q1, q2⟩ := fld_rp le h3.1 fun a ha => k a (List.mem_cons_of_mem _ (List.mem_cons_of_mem _ ha))
    exact .ins h0 (by rw [k p (List.mem_cons_self ..)]; exact h1) q1 q2
theorem SR.freeze (h : SR S σ H F env ad) {i : Nat} {o : Own} {d : D} (hs : env[i]? = some (.own o)) (e : o.dat? = some d) : ∃ p F' ad', σ[i]? = some (some (.ref p)) ∧ SR S σ H F' (env.set i (.dat d)) ad' ∧ Le F F' ∧ Rp S.T F' (.ref p) d := by
  obtain ⟨p, hp, ha⟩ := h.at_ i _ hs
  have hl : ∀ s, env[i]? = some s → isLent s = false := fun s e => by
    rw [hs] at e
    cases e
    rfl
  have le : Le F (fun a => if a ∈ ad i then H a else F a) := fun a u e => by
    have n : a ∉ ad i := fun z => by rw [(h.mine i a z).1] at e; cases e
    show (if a ∈ ad i then H a else F a) = some u
    rw [if_neg n]
    exact e
  have r : Rp S.T (fun a => if a ∈ ad i then H a else F a) (.ref p) d := own_rp le ha (fun a ha => if_pos ha) e
  obtain ⟨h2, _⟩ := h.frz hp hl r
  exact ⟨p, _, _, hp, h2, le, r⟩
end
end DL
set_option Elab.async false
set_option linter.all false
set_option maxRecDepth 100000
set_option maxHeartbeats 2000000
namespace DL
open PySem PySem.Spec PyProof.Rows L2
inductive Res (α : Type) where
  | ok (a : α) (e : Env) | exc (c : Str) (e : Env) | bad
def Res.bind {α β : Type} : Res α → (α → Env → Res β) → Res β
  | .ok a e, f => f a e
  | .exc c e, _ => .exc c e
  | .bad, _ => .bad
def lift {α : Type} (o : Option α) (e : Env) : Res α := match o with
  | some a => .ok a e
  | none => .bad
abbrev M (α : Type) := Env → Res α
def Post {α : Type} (S : Gd) (W : WX) (σ : L2.St) (F : Hp) (r : Res α) (K : α → Env → Hp → Hp → (Nat → List Addr) → Prop) : Prop := match r with
  | .ok a env' => ∀ H' F' ad', Le F F' → SR S σ H' F' env' ad' → K a env' H' F' ad'
  | .exc c env' => ∀ C H' F' ad', S.T.exc c = some C → Le F F' → SR S σ H' F' env' ad' → W (.ref C) none σ H'
  | .bad => False
section
variable {α β : Type} {S : Gd} {W : WX} {σ : L2.St} {F : Hp}
theorem Post.bind {r : Res α} {f : α → Env → Res β} {K : β → Env → Hp → Hp → (Nat → List Addr) → Prop} (h : Post S W σ F (r.bind f) K) :
    Post S W σ F r fun a env' H' F' ad' => Le F F' ∧ Post S W σ F' (f a env') K := by
  cases r with
  | ok a e =>
    intro H' F' ad' le sr
    refine ⟨le, ?_⟩
    have h2 : Post S W σ F (f a e) K := h
    generalize f a e = q at h2
    cases q with
    | ok b e2 => exact fun H2 F2 ad2 le2 sr2 => h2 H2 F2 ad2 (le.trans le2) sr2
    | exc c e2 => exact fun C H2 F2 ad2 hc le2 sr2 => h2 C H2 F2 ad2 hc (le.trans le2) sr2
    | bad => exact h2
  | exc c e => exact h
  | bad => exact h
theorem Post.imp {r : Res α} {K K' : α → Env → Hp → Hp → (Nat → List Addr) → Prop} (h : Post S W σ F r K) (i : ∀ a e H' F' ad', Le F F' → SR S σ H' F' e ad' → K a e H' F' ad' → K' a e H' F' ad') : Post S W σ F r K' := by
  cases r with
  | ok a e => exact fun H' F' ad' le sr => i a e H' F' ad' le sr (h H' F' ad' le sr)
  | exc c e => exact h
  | bad => exact h
theorem Post.lift {o : Option α} {e : Env} {K : α → Env → Hp → Hp → (Nat → List Addr) → Prop} (h : Post S W σ F (lift o e) K) : ∃ a, o = some a ∧ ∀ H' F' ad', Le F F' → SR S σ H' F' e ad' → K a e H' F' ad' := by
  cases o with
  | none => exact h.elim
  | some a => exact ⟨a, rfl, h⟩
end
def tD (S : Gd) (W : WX) (m : M D) : TE := fun σ H Q => ∃ F env ad, SR S σ H F env ad ∧ Post S W σ F (m env) fun d _ H' F' _ => ∀ v, Rp S.T F' v d → Q v H'
def tW (S : Gd) (W : WX) (m : M D) : TE := fun σ H Q => ∃ F env ad, SR S σ H F env ad ∧ Post S W σ F (m env) fun d _ H' F' _ => ∀ v, Rp S.T H' v d → Q v H'
def tT (S : Gd) (W : WX) (m : M Bool) : TT := fun σ H Q => ∃ F env ad, SR S σ H F env ad ∧ Post S W σ F (m env) fun b _ H' _ _ => Q b H'
def tL (S : Gd) (W : WX) (m : M (List D)) : TA := fun σ H Q => ∃ F env ad, SR S σ H F env ad ∧ Post S W σ F (m env) fun ds _ H' F' _ => ∀ vs, RpAll S.T F' vs ds → Q vs H'
theorem PE.imp {X : Cx} {e : Expr} {t t' : TE} (h : PE X e t) (i : ∀ σ H Q, t' σ H Q → t σ H Q) : PE X e t' := ⟨fun pins s σ H Q I q => h.run pins s σ H Q I (i σ H Q q)⟩
theorem PT.imp {X : Cx} {e : Expr} {t t' : TT} (h : PT X e t) (i : ∀ σ H Q, t' σ H Q → t σ H Q) : PT X e t' := ⟨fun pins s σ H Q I q => h.run pins s σ H Q I (i σ H Q q)⟩
theorem PW.imp {X : Cx} {e : Expr} {t t' : TT} (h : PW X e t) (i : ∀ σ H Q, t' σ H Q → t σ H Q) : PW X e t' := ⟨fun whole pins s σ H Q I q => h.run whole pins s σ H Q I (i σ H Q q)⟩
theorem PA.imp {X : Cx} {es : List Expr} {t t' : TA} (h : PA X es t) (i : ∀ σ H Q, t' σ H Q → t σ H Q) : PA X es t' := ⟨fun pos pins s σ H Q I q => h.run pos pins s σ H Q I (i σ H Q q)⟩
theorem PS.imp {X : Cx} {e : Stmt} {t t' : TS} (h : PS X e t) (i : ∀ d σ H, t' d σ H → t d σ H) : PS X e t' := ⟨fun pins s σ H D I q => h.run pins s σ H D I (i D σ H q)⟩
theorem PSs.imp {X : Cx} {e : List Stmt} {t t' : TS} (h : PSs X e t) (i : ∀ d σ H, t' d σ H → t d σ H) : PSs X e t' := ⟨fun pins s σ H D I q => h.run pins s σ H D I (i D σ H q)⟩
section
variable {X : Cx} {S : Gd} {W : WX} {e a b : Expr} {pos : Pos} {m ma mb : M D}
theorem de_w (h : PE X e (tD S W m)) : PE X e (tW S W m) := PE.imp h fun σ H Q ⟨F, env, ad, sr, p⟩ => ⟨F, env, ad, sr, p.imp fun d e H' F' ad' _ sr' k v r => k v (r.mono sr'.sub)⟩
def eC (d : D) : M D := fun env => .ok d env
def eVar (i : Nat) : M D := fun env => match env[i]? with
  | some (.dat d) => .ok d env
  | some (.own o) => (match o.dat? with
    | some d => .ok d (env.set i (.dat d))
    | none => .bad)
  | _ => .bad
def wVar (i : Nat) : M D := fun env => match env[i]? with
  | some (.dat d) => .ok d env
  | some (.own o) => lift o.dat? env
  | some (.lent o) => lift o.dat? env
  | _ => .bad
theorem de_c {v : V} {d : D} (h : PE X e (tC v)) (r : ∀ F, Rp S.T F v d) : PE X e (tD S W (eC d)) := PE.imp h fun σ H Q ⟨F, env, ad, sr, p⟩ => p H F ad (Le.refl F) sr v (r F)
theorem de_int {i : Int} {j : Nat} : PE X (.Constant (.int i) j pos) (tD S W (eC (.int i))) := de_c pe_int fun _ => .int i
theorem de_str {x : Str} {j : Nat} : PE X (.Constant (.str x) j pos) (tD S W (eC (.str x))) := de_c pe_str fun _ => .str x
theorem de_bl {b : Bool} {j : Nat} : PE X (.Constant (.bool b) j pos) (tD S W (eC (.bl b))) := de_c pe_bl fun _ => .bl b
theorem de_non {j : Nat} : PE X (.Constant .none j pos) (tD S W (eC .non)) := de_c pe_non fun _ => .non
theorem de_gint {x : Str} {i : Int} (hg : Gl X x) (hm : ∃ t, X.mg x = some (.int i t)) (hd : (x == ("__debug__" : Str)) = false := by decide) : PE X (.Name x pos) (tD S W (eC (.int i))) := by
  obtain ⟨t, hm⟩ := hm
  exact de_c (pe_glob (v := .int i) hg hm ⟨t, rfl⟩ hd) fun _ => .int i
theorem de_gstr {x z : Str} (hg : Gl X x) (hm : ∃ t, X.mg x = some (.str z t)) (hd : (x == ("__debug__" : Str)) = false := by decide) : PE X (.Name x pos) (tD S W (eC (.str z))) := by
  obtain ⟨t, hm⟩ := hm
  exact de_c (pe_glob (v := .str z) hg hm ⟨t, rfl⟩ hd) fun _ => .str z
theorem de_pv (i : Nat) (h : PE X e (tVar i)) : PE X e (tD S W (eVar i)) := PE.imp h fun σ H Q ⟨F, env, ad, sr, p⟩ => by
  unfold eVar at p
  cases q : env[i]? with
  | none => rw [q] at p; exact p.elim
  | some s =>
    rw [q] at p
    cases s with
    | emp => exact p.elim
    | lent o => exact p.elim
    | dat d =>
      obtain ⟨_, v, e1, e2⟩ := sr.at_ i _ q
      exact ⟨v, e1, p H F ad (Le.refl F) sr v e2⟩
    | own o =>
      cases q2 : o.dat? with
      | none =>
        have p2 : Post S W σ F (match o.dat? with | some d => .ok d (env.set i (.dat d)) | none => .bad) _ := p
        rw [q2] at p2
        exact p2.elim
      | some d =>
        have p2 : Post S W σ F (match o.dat? with | some d => .ok d (env.set i (.dat d)) | none => .bad) _ := p
        rw [q2] at p2
        obtain ⟨b, F', ad', e1, sr', le, r⟩ := sr.freeze q q2
        exact ⟨_, e1, p2 H F' ad' le sr' _ r⟩
theorem dv (i : Nat) {x : Str} (hN : X.N[i]? = some x := by rfl) (hv : Vis X.env.scope x := by first | exact Or.inl rfl | exact Or.inr (Or.inl rfl) | exact Or.inr (Or.inr rfl)) (hd : (x == ("__debug__" : Str)) = false := by decide)
    (hcd : (x == ("__classdict__" : Str)) = false := by decide) : PE X (.Name x pos) (tD S W (eVar i)) := de_pv i (pv i hN hv hd hcd)
def eOp (f : D → D → Option D) (ma mb : M D) : M D := fun env => (ma env).bind fun x e1 => (mb e1).bind fun y e2 => lift (f x y) e2
def eUn (f : D → Option D) (ma : M D) : M D := fun env => (ma env).bind fun x e1 => lift (f x) e1
def OpD (S : Gd) (r : R2) (f : D → D → Option D) : Prop := ∀ (σ : L2.St) (H F : Hp) (env : Env) (ad : Nat → List Addr) (x y : V) (a b d : D) (Q : VK), SR S σ H F env ad → Rp S.T F x a → Rp S.T F y b → f a b = some d →
  (∀ v H' F' ad', Le F F' → SR S σ H' F' env ad' → Rp S.T F' v d → Q v H') → r x y H Q
def OpW (S : Gd) (r : R2) (f : D → D → Option D) : Prop := ∀ (σ : L2.St) (H F : Hp) (env : Env) (ad : Nat → List Addr) (x y : V) (a b d : D) (Q : VK), SR S σ H F env ad → Rp S.T H x a → Rp S.T H y b → f a b = some d →
  (∀ v H' F' ad', Le F F' → SR S σ H' F' env ad' → Rp S.T F' v d → Q v H') → r x y H Q
theorem t_op {r : R2} {f : D → D → Option D} (hd : OpD S r f) {σ : L2.St} {H : Hp} {Q : VK} (h : tD S W (eOp f ma mb) σ H Q) : tOp r (tD S W ma) (tD S W mb) σ H Q := by
  obtain ⟨F, env, ad, sr, p⟩ := h
  refine ⟨F, env, ad, sr, p.bind.imp fun x e1 H1 F1 ad1 le1 sr1 q v1 r1 => ⟨F1, e1, ad1, sr1, q.2.bind.imp fun y e2 H2 F2 ad2 le2 sr2 q2 v2 r2 => ?_⟩⟩
  obtain ⟨d, e3, q3⟩ := Post.lift q2.2
  exact hd σ H2 F2 e2 ad2 v1 v2 x y d Q sr2 (r1.mono le2) r2 e3 fun v H' F' ad' le sr' r' => q3 H' F' ad' le sr' v r'
theorem t_opw {r : R2} {f : D → D → Option D} (hd : OpW S r f) {σ : L2.St} {H : Hp} {Q : VK} (h : tD S W (eOp f ma mb) σ H Q) : tOp r (tD S W ma) (tW S W mb) σ H Q := by
  obtain ⟨F, env, ad, sr, p⟩ := h
  refine ⟨F, env, ad, sr, p.bind.imp fun x e1 H1 F1 ad1 le1 sr1 q v1 r1 => ⟨F1, e1, ad1, sr1, q.2.bind.imp fun y e2 H2 F2 ad2 le2 sr2 q2 v2 r2 => ?_⟩⟩
  obtain ⟨d, e3, q3⟩ := Post.lift q2.2
  exact hd σ H2 F2 e2 ad2 v1 v2 x y d Q sr2 ((r1.mono le2).mono sr2.sub) r2 e3 fun v H' F' ad' le sr' r' => q3 H' F' ad' le sr' v r'
theorem de_bin {op : Operator} {r : R2} {f : D → D → Option D} (ho : OpR X (binaryOp op) r) (hd : OpD S r f) (ha : PE X a (tD S W ma)) (hb : PE X b (tD S W mb)) : PE X (.BinOp a op b pos) (tD S W (eOp f ma mb)) :=
  PE.imp (pe_op ho ha hb) fun σ H Q h => t_op hd h
theorem de_cmp {op : CmpOp} {r : R2} {f : D → D → Option D} (ho : OpR X (compareOp op) r) (hd : OpW S r f) (ha : PE X a (tD S W ma)) (hb : PE X b (tW S W mb)) (hm : behindInMarks op b = false) : PE X (.Compare a [op] [b] pos) (tD S W (eOp f ma mb)) :=
  PE.imp (pe_cmpR ho ha hb hm) fun σ H Q h => t_opw hd h
def eOpV (f : D → D → Option D) (i : Nat) (mb : M D) : M D := fun env => match env[i]? with
  | some .emp => .bad
  | none => .bad
  | _ => (mb env).bind fun y e2 => (wVar i e2).bind fun x e3 => lift (f x y) e3
theorem look_var {σ : L2.St} {H F : Hp} {env : Env} {ad : Nat → List Addr} {i : Nat} {x : D} {e3 : Env} (sr : SR S σ H F env ad) (h : wVar i env = .ok x e3) : e3 = env ∧ ∃ v, σ[i]? = some (some v) ∧ Rp S.T H v x := by
  unfold wVar at h
  cases q : env[i]? with
  | none => rw [q] at h; cases h
  | some s =>
    rw [q] at h
    cases s with
    | emp => cases h
    | dat d =>
      cases h
      obtain ⟨_, v, e1, e2⟩ := sr.at_ i _ q
      exact ⟨rfl, v, e1, e2.mono sr.sub⟩
    | own o =>
      have h2 : lift o.dat? env = .ok x e3 := h
      unfold lift at h2
      cases q2 : o.dat? with
      | none => rw [q2] at h2; cases h2
      | some d =>
        rw [q2] at h2
        cases h2
        obtain ⟨b, x1, x2⟩ := sr.at_ i _ q
        exact ⟨rfl, _, x1, own_rp sr.sub x2 (fun _ _ => rfl) q2⟩
    | lent o =>
      have h2 : lift o.dat? env = .ok x e3 := h
      unfold lift at h2
      cases q2 : o.dat? with
      | none => rw [q2] at h2; cases h2
      | some d =>
        rw [q2] at h2
        cases h2
        obtain ⟨b, x1, x2⟩ := sr.at_ i _ q
        exact ⟨rfl, _, x1, own_rp sr.sub x2 (fun _ _ => rfl) q2⟩
theorem some_of_slot {σ : L2.St} {H F : Hp} {env : Env} {ad : Nat → List Addr} {i : Nat} {s : Slot} (sr : SR S σ H F env ad) (q : env[i]? = some s) (h : s ≠ .emp) : ∃ v, σ[i]? = some (some v) := by
  cases s with
  | emp => exact absurd rfl h
  | dat d =>
    obtain ⟨_, v, e1, _⟩ := sr.at_ i _ q
    exact ⟨v, e1⟩
  | own o =>
    obtain ⟨b, x1, _⟩ := sr.at_ i _ q
    exact ⟨_, x1⟩
  | lent o =>
    obtain ⟨b, x1, _⟩ := sr.at_ i _ q
    exact ⟨_, x1⟩
theorem t_opv {r : R2} {f : D → D → Option D} {i : Nat} (hd : OpW S r f) {σ : L2.St} {H : Hp} {Q : VK} (h : tD S W (eOpV f i mb) σ H Q) : tOp r (tVar i) (tD S W mb) σ H Q := by
  obtain ⟨F, env, ad, sr, p⟩ := h
  unfold eOpV at p
  have key : ∀ s, env[i]? = some s → s ≠ .emp → Post S W σ F ((mb env).bind fun y e2 => (wVar i e2).bind fun x e3 => lift (f x y) e3) (fun d _ H' F' _ => ∀ v, Rp S.T F' v d → Q v H') → tOp r (tVar i) (tD S W mb) σ H Q := fun s q ns p2 => by
    obtain ⟨v, hv⟩ := some_of_slot sr q ns
    refine ⟨v, hv, F, env, ad, sr, p2.bind.imp fun y e2 H2 F2 ad2 le2 sr2 q2 v2 r2 => ?_⟩
    have q3 := q2.2
    cases hw : wVar i e2 with
    | ok x e3 =>
      rw [hw] at q3
      obtain ⟨ee, v', hv', rx⟩ := look_var sr2 hw
      rw [hv] at hv'
      cases hv'
      subst ee
      obtain ⟨d, e4, q4⟩ := Post.lift q3
      exact hd σ H2 F2 e3 ad2 v v2 x y d Q sr2 rx (r2.mono sr2.sub) e4 fun v H' F' ad' le sr' r' => q4 H' F' ad' le sr' v r'
    | exc c e3 =>
      unfold wVar at hw
      split at hw <;> first | cases hw | (unfold lift at hw; split at hw <;> cases hw)
    | bad =>
      rw [hw] at q3
      exact q3.elim
  cases q : env[i]? with
  | none => rw [q] at p; exact p.elim
  | some s =>
    rw [q] at p
    cases s with
    | emp => exact p.elim
    | dat d => exact key _ q (by intro z; cases z) p
    | own o => exact key _ q (by intro z; cases z) p
    | lent o => exact key _ q (by intro z; cases z) p
end
section
variable {X : Cx} {S : Gd} {W : WX} {e a b c : Expr} {es : List Expr} {pos : Pos} {m ma mb : M D} {t u : M Bool}
def asB (m : M D) : M Bool := fun env => (m env).bind fun d e => match d with
  | .bl b => .ok b e
  | _ => .bad
theorem t_asB {σ : L2.St} {H : Hp} {Q : Bool → Hp → Prop} (h : tT S W (asB m) σ H Q) : tD S W m σ H fun x H' => ∃ k, x = .bl k ∧ Q k H' := by
  obtain ⟨F, env, ad, sr, p⟩ := h
  refine ⟨F, env, ad, sr, p.bind.imp fun d e1 H1 F1 ad1 le1 sr1 q v r => ?_⟩
  cases r with
  | bl b => exact ⟨b, rfl, q.2 H1 F1 ad1 (Le.refl F1) sr1⟩
  | non => exact q.2.elim
  | int i => exact q.2.elim
  | str x => exact q.2.elim
  | lst _ _ => exact q.2.elim
  | tup _ _ => exact q.2.elim
  | ins _ _ _ _ => exact q.2.elim
  | scr _ => exact q.2.elim
  | exc _ _ => exact q.2.elim
  | dct _ _ _ _ => exact q.2.elim
  | wd _ => exact q.2.elim
  | raw _ => exact q.2.elim
theorem dt_val (h : PE X e (tD S W m)) (he : ∀ whole, isTrue e X.env whole = (do let v ← whole; standAt e.pos; holding [v] (truthy v)) := by intro _; rfl) : PT X e (tT S W (asB m)) :=
  PT.imp (pt_val h he) fun σ H Q q => t_asB q
theorem dt_cmp {op : CmpOp} {r : R2} {f : D → D → Option D} (ho : OpR X (compareOp op) r) (hd : OpW S r f) (ha : PE X a (tD S W ma)) (hb : PE X b (tW S W mb)) (hm : behindInMarks op b = false) : PT X (.Compare a [op] [b] pos) (tT S W (asB (eOp f ma mb))) :=
  PT.imp (pt_cmpR ho ha hb hm) fun σ H Q q => t_opw hd (t_asB q)
theorem dt_cmpV {op : CmpOp} {r : R2} {f : D → D → Option D} (i : Nat) (ho : OpR X (compareOp op) r) (hd : OpW S r f) (ha : PE X a (tVar i)) (hb : PE X b (tD S W mb)) (hm : behindInMarks op b = false) : PT X (.Compare a [op] [b] pos) (tT S W (asB (eOpV f i mb))) :=
  PT.imp (pt_cmpR ho ha hb hm) fun σ H Q q => t_opv hd (t_asB q)
def bAnd (t u : M Bool) : M Bool := fun env => (t env).bind fun b e => if b = true then u e else .ok false e
def bOr (t u : M Bool) : M Bool := fun env => (t env).bind fun b e => if b = true then .ok true e else u e
def bNot (t : M Bool) : M Bool := fun env => (t env).bind fun b e => .ok (!b) e
theorem dw_and1 (h : PT X a (tT S W t)) : PW X (.BoolOp .And [a] pos) (tT S W t) := pw_and1 h
theorem dw_or1 (h : PT X a (tT S W t)) : PW X (.BoolOp .Or [a] pos) (tT S W t) := pw_or1 h
theorem dw_and (h : PT X a (tT S W t)) (h2 : PW X (.BoolOp .And (b :: es) pos) (tT S W u)) : PW X (.BoolOp .And (a :: b :: es) pos) (tT S W (bAnd t u)) :=
  PW.imp (pw_and h h2) fun σ H Q ⟨F, env, ad, sr, p⟩ => ⟨F, env, ad, sr, p.bind.imp fun k e1 H1 F1 ad1 le1 sr1 q => by
    cases k with
    | true =>
      rw [if_pos rfl]
      exact ⟨F1, e1, ad1, sr1, q.2⟩
    | false =>
      rw [if_neg Bool.false_ne_true]
      exact q.2 H1 F1 ad1 (Le.refl F1) sr1⟩
theorem dw_or (h : PT X a (tT S W t)) (h2 : PW X (.BoolOp .Or (b :: es) pos) (tT S W u)) : PW X (.BoolOp .Or (a :: b :: es) pos) (tT S W (bOr t u)) :=
  PW.imp (pw_or h h2) fun σ H Q ⟨F, env, ad, sr, p⟩ => ⟨F, env, ad, sr, p.bind.imp fun k e1 H1 F1 ad1 le1 sr1 q => by
    cases k with
    | true =>
      rw [if_pos rfl]
      exact q.2 H1 F1 ad1 (Le.refl F1) sr1
    | false =>
      rw [if_neg Bool.false_ne_true]
      exact ⟨F1, e1, ad1, sr1, q.2⟩⟩
theorem dt_not (h : PT X a (tT S W t)) : PT X (.UnaryOp .Not a pos) (tT S W (bNot t)) :=
  PT.imp (pt_not h) fun σ H Q ⟨F, env, ad, sr, p⟩ => ⟨F, env, ad, sr, p.bind.imp fun k e1 H1 F1 ad1 le1 sr1 q => q.2 H1 F1 ad1 (Le.refl F1) sr1⟩
def eIf (t : M Bool) (ma mb : M D) : M D := fun env => (t env).bind fun b e => if b = true then ma e else mb e
theorem de_if (h : PT X c (tT S W t)) (ha : PE X a (tD S W ma)) (hb : PE X b (tD S W mb)) : PE X (.IfExp c a b pos) (tD S W (eIf t ma mb)) :=
  PE.imp (pe_ifExp h ha hb) fun σ H Q ⟨F, env, ad, sr, p⟩ => ⟨F, env, ad, sr, p.bind.imp fun k e1 H1 F1 ad1 le1 sr1 q => by
    cases k with
    | true =>
      rw [if_pos rfl]
      exact ⟨F1, e1, ad1, sr1, q.2⟩
    | false =>
      rw [if_neg Bool.false_ne_true]
      exact ⟨F1, e1, ad1, sr1, q.2⟩⟩
def eAnd (ma mb : M D) : M D := fun env => (asB ma env).bind fun b e => if b = true then mb e else .ok (.bl false) e
def eOr (ma mb : M D) : M D := fun env => (asB ma env).bind fun b e => if b = true then .ok (.bl true) e else mb e
def eNot (ma : M D) : M D := fun env => (asB ma env).bind fun b e => .ok (.bl (!b)) e
theorem t_asBk {β : Type} {f : Bool → Env → Res β} {K : β → Env → Hp → Hp → (Nat → List Addr) → Prop} {σ : L2.St} {F : Hp} {env : Env} (p : Post S W σ F ((asB m env).bind f) K) :
    Post S W σ F (m env) fun d e H' F' ad' => Le F F' ∧ ∃ b, d = .bl b ∧ Post S W σ F' (f b e) K := by
  unfold asB at p
  generalize m env = q at p
  cases q with
  | bad => exact p
  | exc c e => exact p
  | ok d e =>
    cases d with
    | bl b =>
      have p2 : Post S W σ F (Res.bind (.ok b e) f) K := p
      intro H' F' ad' le sr
      have z := p2.bind H' F' ad' le sr
      exact ⟨le, b, rfl, z.2⟩
    | _ => exact p.elim
theorem de_one {op : BoolOp} (h : PE X a (tD S W ma)) : PE X (.BoolOp op [a] pos) (tD S W ma) := pe_one h
theorem de_and (ha : PE X a (tD S W ma)) (hb : PE X (.BoolOp .And (b :: es) pos) (tD S W mb)) : PE X (.BoolOp .And (a :: b :: es) pos) (tD S W (eAnd ma mb)) :=
  PE.imp (pe_and ha hb) fun σ H Q ⟨F, env, ad, sr, p⟩ => ⟨F, env, ad, sr, (t_asBk p).imp fun d e1 H1 F1 ad1 le1 sr1 q v r => by
    obtain ⟨_, k, rfl, q⟩ := q
    cases r
    refine ⟨k, rfl, ?_⟩
    cases k with
    | true =>
      rw [if_pos rfl]
      exact ⟨F1, e1, ad1, sr1, q⟩
    | false =>
      rw [if_neg Bool.false_ne_true]
      exact q H1 F1 ad1 (Le.refl F1) sr1 _ (.bl false)⟩
theorem de_not (ha : PE X a (tD S W ma)) : PE X (.UnaryOp .Not a pos) (tD S W (eNot ma)) :=
  PE.imp (pe_not ha) fun σ H Q ⟨F, env, ad, sr, p⟩ => ⟨F, env, ad, sr, (t_asBk p).imp fun d e1 H1 F1 ad1 le1 sr1 q v r => by
    obtain ⟨_, k, rfl, q⟩ := q
    cases r
    exact ⟨k, rfl, q H1 F1 ad1 (Le.refl F1) sr1 _ (.bl _)⟩⟩
end
section
variable {X : Cx} {S : Gd} {W : WX} {e a b c : Expr} {es : List Expr} {pos : Pos} {m ma mb : M D} {l : M (List D)}
def aNil : M (List D) := fun env => .ok [] env
def aCons (m : M D) (l : M (List D)) : M (List D) := fun env => (m env).bind fun d e => (l e).bind fun ds e2 => .ok (d :: ds) e2
theorem da_nil : PA X [] (tL S W aNil) := PA.imp pa_nil fun σ H Q ⟨F, env, ad, sr, p⟩ => p H F ad (Le.refl F) sr [] .nil
theorem da_cons (h : PE X e (tD S W m)) (hr : PA X es (tL S W l)) (hs : starEach (e :: es) X.env = (false, eval e X.env) :: starEach es X.env := by exact star_ok _ _ _ rfl) : PA X (e :: es) (tL S W (aCons m l)) :=
  PA.imp (pa_cons h hr hs) fun σ H Q ⟨F, env, ad, sr, p⟩ => ⟨F, env, ad, sr, p.bind.imp fun d e1 H1 F1 ad1 le1 sr1 q v r => ⟨F1, e1, ad1, sr1, q.2.bind.imp fun ds e2 H2 F2 ad2 le2 sr2 q2 vs rs => q2.2 H2 F2 ad2 (Le.refl F2) sr2 _ (.cons (r.mono le2) rs)⟩⟩
def eTup (l : M (List D)) : M D := fun env => (l env).bind fun ds e => if ds.length ≤ 1000 then .ok (.tup ds) e else .bad
def eLst (l : M (List D)) : M D := fun env => (l env).bind fun ds e => if ds.length ≤ 1000 then .ok (.lst ds) e else .bad
theorem size1000 {n : Nat} (h : n ≤ 1000) : n ≤ sizeLine := Nat.le_trans h (by decide)
theorem notb_tup {xs : List V} : NoTbl (.tup xs) := fun _ z => by cases z
theorem notb_lst {xs : List V} : NoTbl (.lst xs) := fun _ z => by cases z
theorem SR.newTup {σ : L2.St} {H F : Hp} {env : Env} {ad : Nat → List Addr} {vs : List V} {ds : List D} (sr : SR S σ H F env ad) (r : RpAll S.T F vs ds) {p : Addr} (hp : H p = none) : ∃ F', Le F F' ∧ SR S σ (upd H p (.tup vs)) F' env ad ∧ Rp S.T F' (.ref p) (.tup ds) := by
  obtain ⟨sr2, le⟩ := sr.alloc (o := .tup vs) hp notb_tup
  exact ⟨_, le, sr2, .tup (.of upd_same) (r.mono le)⟩
theorem SR.newLst {σ : L2.St} {H F : Hp} {env : Env} {ad : Nat → List Addr} {vs : List V} {ds : List D} (sr : SR S σ H F env ad) (r : RpAll S.T F vs ds) {p : Addr} (hp : H p = none) : ∃ F', Le F F' ∧ SR S σ (upd H p (.lst vs)) F' env ad ∧ Rp S.T F' (.ref p) (.lst ds) := by
  obtain ⟨sr2, le⟩ := sr.alloc (o := .lst vs) hp notb_lst
  exact ⟨_, le, sr2, .lst upd_same (r.mono le)⟩
theorem de_tup {x1} (h : PA X es (tL S W l)) : PE X (.Tuple es x1 pos) (tD S W (eTup l)) :=
  PE.imp (pe_tup h) fun σ H Q ⟨F, env, ad, sr, p⟩ => ⟨F, env, ad, sr, p.bind.imp fun ds e1 H1 F1 ad1 le1 sr1 q vs rs => by
    have q2 := q.2
    by_cases hl : ds.length ≤ 1000
    · rw [if_pos hl] at q2
      refine ⟨by rw [rs.length]; exact size1000 hl, fun b hb => ?_⟩
      obtain ⟨F2, le2, sr2, r2⟩ := sr1.newTup rs hb
      exact q2 _ F2 ad1 le2 sr2 _ r2
    · rw [if_neg hl] at q2
      exact q2.elim⟩
theorem de_lst (h : PA X es (tL S W l)) : PE X (.List es pos) (tD S W (eLst l)) :=
  PE.imp (pe_lst h) fun σ H Q ⟨F, env, ad, sr, p⟩ => ⟨F, env, ad, sr, p.bind.imp fun ds e1 H1 F1 ad1 le1 sr1 q vs rs => by
    have q2 := q.2
    by_cases hl : ds.length ≤ 1000
    · rw [if_pos hl] at q2
      refine ⟨by rw [rs.length]; exact size1000 hl, fun b hb => ?_⟩
      obtain ⟨F2, le2, sr2, r2⟩ := sr1.newLst rs hb
      exact q2 _ F2 ad1 le2 sr2 _ r2
    · rw [if_neg hl] at q2
      exact q2.elim⟩
end
end DL
set_option Elab.async false
set_option linter.all false
set_option maxRecDepth 100000
set_option maxHeartbeats 2000000
namespace DL
open PySem PySem.Spec PyProof.Rows L2
mutual
def D.toP : D → PyData
  | .non => .none
  | .bl b => .bool b
  | .int i => .int i
  | .str x => .str x
  | .lst xs => .list (toPs xs)
  | .tup xs => .tuple (toPs xs)
  | .ins _ _ _ => .dict []
  | .raw _ => .dict []
  | .exc _ => .dict []
  | .dct _ _ => .dict []
  | .wd _ => .dict []
  | .scr ns => .list (ns.map .int)
def toPs : List D → List PyData
  | [] => []
  | d :: ds => d.toP :: toPs ds
end
theorem toPs_map : ∀ ds : List D, toPs ds = ds.map D.toP
  | [] => by rw [toPs]; rfl
  | d :: ds => by rw [toPs, toPs_map ds]; rfl
theorem dp_ints {K : PySem.W.Frag} {H : Hp} : ∀ ns : List Int, DpAll K H (ns.map V.int) (ns.map PyData.int)
  | [] => .nil
  | n :: r => .cons (.int n) (dp_ints r)
mutual
theorem Rp.dp {T : Tb} {F : Hp} : ∀ {v : V} {d : D}, Rp T F v d → d.toP.canLay0 = true → Dp T.K F v d.toP
  | _, _, .non, _ => by rw [D.toP]; exact .non
  | _, _, .bl b, _ => by rw [D.toP]; exact .bl b
  | _, _, .int i, _ => by rw [D.toP]; exact .int i
  | _, _, .str x, _ => by rw [D.toP]; exact .str x
  | _, _, .lst h a, c => by
    rw [D.toP] at c ⊢
    exact .lst (.of h) (RpAll.dp a (by simpa [PyData.canLay0] using c))
  | _, _, .tup h a, c => by
    rw [D.toP] at c ⊢
    exact .tup h (RpAll.dp a (by simpa [PyData.canLay0] using c))
  | _, _, .ins _ _ _ _, c => by
    rw [D.toP] at c
    simp [PyData.canLay0] at c
  | _, _, .raw _, c => by
    rw [D.toP] at c
    simp [PyData.canLay0] at c
  | _, _, .dct _ _ _ _, c => by
    rw [D.toP] at c
    simp [PyData.canLay0] at c
  | _, _, .wd _, c => by
    rw [D.toP] at c
    simp [PyData.canLay0] at c
  | _, _, .exc _ _, c => by
    rw [D.toP] at c
    simp [PyData.canLay0] at c
  | _, _, .scr (ns := ns) h, c => by
    rw [D.toP]
    exact .lst h (dp_ints ns)
theorem RpAll.dp {T : Tb} {F : Hp} : ∀ {vs : List V} {ds : List D}, RpAll T F vs ds → PyData.canLayAll0 (toPs ds) = true → DpAll T.K F vs (toPs ds)
  | _, _, .nil, _ => by rw [toPs]; exact .nil
  | _, _, .cons h t, c => by
    rw [toPs] at c ⊢
    rw [PyData.canLayAll0, Bool.and_eq_true] at c
    exact .cons (Rp.dp h c.1) (RpAll.dp t c.2)
end
def D.sh (d : D) : Bool := SeqAt.shaped d.toP
theorem Rp.dps {T : Tb} {F : Hp} {v : V} {d : D} (h : Rp T F v d) (s : d.sh = true) : Dp T.K F v d.toP := h.dp (SeqAt.canLay_of_shaped s)
def D.eqv (a b : D) : Bool := PyData.eqv a.toP b.toP
def addD : D → D → Option D
  | .int i, .int j => some (.int (i + j))
  | .str x, .str y => if x.length + y.length ≤ sizeLine then some (.str (x ++ y)) else none
  | .lst xs, .lst ys => if xs.length + ys.length ≤ sizeLine then some (.lst (xs ++ ys)) else none
  | .tup xs, .tup ys => if xs.length + ys.length ≤ sizeLine then some (.tup (xs ++ ys)) else none
  | _, _ => none
def subD : D → D → Option D
  | .int i, .int j => some (.int (i - j))
  | _, _ => none
def small64 (i : Int) : Bool := decide (-(2 ^ 64) < i) && decide (i < 2 ^ 64)
def mulOk (i j : Int) : Bool := small64 i || (small64 j || decide (i.natAbs.log2 + j.natAbs.log2 < 1000000))
def mulD : D → D → Option D
  | .int i, .int j => if mulOk i j = true then some (.int (i * j)) else none
  | .str x, .int k => if 0 ≤ k ∧ k ≤ 1000 ∧ x.length ≤ 1000 then some (.str ⟨(List.replicate k.toNat x.cps.toList).flatten.toArray⟩) else none
  | .lst xs, .int k => if 0 ≤ k ∧ k ≤ 1000 ∧ xs.length ≤ 1000 then some (.lst (List.replicate k.toNat xs).flatten) else none
  | .tup xs, .int k => if xs ≠ [] ∧ 1 ≤ k ∧ k ≤ 1000 ∧ xs.length ≤ 1000 then some (.tup (List.replicate k.toNat xs).flatten) else none
  | _, _ => none
def divD : D → D → Option D
  | .int i, .int j => if 0 < j ∧ j.natAbs.log2 < 9000 then some (.int (i / j)) else none
  | _, _ => none
def modD : D → D → Option D
  | .int i, .int j => if 0 < j then some (.int (i % j)) else none
  | _, _ => none
def powD : D → D → Option D
  | .int i, .int j => if 0 ≤ j ∧ j ≤ 1000 ∧ i.natAbs < 2 ^ 64 then some (.int (i ^ j.toNat)) else none
  | _, _ => none
section
variable {S : Gd} {X : Cx}
def rAddA (K : PySem.W.Frag) : R2 := fun x y H Q => rI0 (fun i j => .int (i + j)) x y H Q ∨ (∃ i j, x = .str i ∧ y = .str j ∧ i.length + j.length ≤ sizeLine ∧ Q (.str (i ++ j)) H) ∨ rCat x y H Q ∨ rCatA K x y H Q
theorem op_addA : OpR X (binaryOp .Add) (rAddA X.K) := op_add.or (op_add_str.or (op_cat.or op_catA))
theorem od_add : OpD S (rAddA S.T.K) addD := by
  intro σ H F env ad x y a b d Q sr rx ry e k
  unfold addD at e
  split at e
  · cases rx; cases ry; cases e
    exact .inl ⟨_, _, rfl, rfl, k _ H F ad (Le.refl F) sr (.int _)⟩
  · split at e
    · rename_i h
      cases rx; cases ry; cases e
      exact .inr (.inl ⟨_, _, rfl, rfl, h, k _ H F ad (Le.refl F) sr (.str _)⟩)
    · cases e
  · split at e
    · rename_i h
      cases e
      cases rx with
      | lst h1 r1 =>
        cases ry with
        | lst h2 r2 =>
          refine .inr (.inr (.inl ⟨_, _, _, _, rfl, rfl, sr.sub _ _ h1, sr.sub _ _ h2, by rw [r1.length, r2.length]; exact h, fun p hp => ?_⟩))
          obtain ⟨F', le, sr', r'⟩ := sr.newLst (r1.append r2) hp
          exact k _ _ F' ad le sr' r'
    · cases e
  · split at e
    · rename_i h
      cases e
      cases rx with
      | tup h1 r1 =>
        cases ry with
        | tup h2 r2 =>
          refine .inr (.inr (.inr ⟨_, _, _, _, rfl, rfl, sr.sub.t h1, sr.sub.t h2, by rw [r1.length, r2.length]; exact h, fun z => ?_, fun _ z => ?_, fun _ _ p hp => ?_⟩))
          · subst z
            cases r1
            exact k _ H F ad (Le.refl F) sr (.tup h2 r2)
          · subst z
            cases r2
            rw [List.append_nil] at k
            exact k _ H F ad (Le.refl F) sr (.tup h1 r1)
          · obtain ⟨F', le, sr', r'⟩ := sr.newTup (r1.append r2) hp
            exact k _ _ F' ad le sr' r'
    · cases e
  · cases e
theorem od_int {g : Int → Int → Int} {f : D → D → Option D} (hf : ∀ a b d, f a b = some d → ∃ i j, a = .int i ∧ b = .int j ∧ d = .int (g i j)) : OpD S (rI0 fun i j => .int (g i j)) f := by
  intro σ H F env ad x y a b d Q sr rx ry e k
  obtain ⟨i, j, rfl, rfl, rfl⟩ := hf a b d e
  cases rx; cases ry
  exact ⟨_, _, rfl, rfl, k _ H F ad (Le.refl F) sr (.int _)⟩
theorem od_sub : OpD S (rI0 fun i j => .int (i - j)) subD := od_int fun a b d e => by
  unfold subD at e
  split at e
  · cases e; exact ⟨_, _, rfl, rfl, rfl⟩
  · cases e
def rRepT1 (K : PySem.W.Frag) : R2 := fun x y H Q => ∃ l xs, x = .ref l ∧ y = .int 1 ∧ SqT K H l xs ∧ Q (.ref l) H
def rMulA (K : PySem.W.Frag) : R2 := fun x y H Q => rI CMul (fun i j => .int (i * j)) x y H Q ∨ rI CMulW (fun i j => .int (i * j)) x y H Q ∨
  (∃ z k, x = .str z ∧ y = .int k ∧ 0 ≤ k ∧ k ≤ 1000 ∧ z.length ≤ 1000 ∧ Q (.str ⟨(List.replicate k.toNat z.cps.toList).flatten.toArray⟩) H) ∨ rRep x y H Q ∨ rRepT K x y H Q ∨ rRepT1 K x y H Q
theorem rep_fold (a : Array Nat) : ∀ (m : Nat) (acc : Array Nat), (List.replicate m a).foldl (· ++ ·) acc = acc ++ (List.replicate m a.toList).flatten.toArray
  | 0, acc => by simp
  | m + 1, acc => by
    rw [List.replicate_succ, List.foldl_cons, rep_fold a m, List.replicate_succ, List.flatten_cons]
    apply Array.ext'
    simp
theorem rep_str {z : Str} {m : Nat} : (⟨(List.replicate m z.cps).foldl (· ++ ·) #[]⟩ : Str) = ⟨(List.replicate m z.cps.toList).flatten.toArray⟩ := by
  rw [rep_fold]
  simp
theorem op_rep_str : OpR X (binaryOp .Mult) (fun x y H Q => ∃ z k, x = .str z ∧ y = .int k ∧ 0 ≤ k ∧ k ≤ 1000 ∧ z.length ≤ 1000 ∧ Q (.str ⟨(List.replicate k.toNat z.cps.toList).flatten.toArray⟩) H) := by
  intro pins s σ H x y v u Q I rx ry h
  obtain ⟨z, k, rfl, rfl, h0, h1, h2, q⟩ := h
  obtain ⟨t, rfl⟩ := rx
  obtain ⟨t', rfl⟩ := ry
  have len : z.length * k.toNat ≤ 1000000 := Nat.le_trans (Nat.mul_le_mul h2 (show k.toNat ≤ 1000 by omega)) (by decide)
  refine PySem.P.mul_str ?_ (fun hk _ => ?_) (fun _ _ => ?_) ?_
  · rw [decide_eq_false (by omega), decide_eq_false (by omega)]
    rfl
  · have h5 : (2 ^ 63 - 1) / k ≥ (2 ^ 63 - 1) / 1000 := by
      apply Int.le_of_sub_nonneg
      have hk0 : 0 < k := by omega
      have e1 : (2 ^ 63 - 1 : Int) / 1000 ≤ (2 ^ 63 - 1) / k := by
        apply (Int.le_ediv_iff_mul_le hk0).mpr
        have e2 : ((2 ^ 63 - 1 : Int) / 1000) * k ≤ ((2 ^ 63 - 1 : Int) / 1000) * 1000 := Int.mul_le_mul_of_nonneg_left h1 (by decide)
        exact Int.le_trans e2 (by decide)
      omega
    have h6 : (2 ^ 63 - 1 : Int) / 1000 > 1000 := by decide
    omega
  · unfold Builtin.Str.tooLong
    rw [decide_eq_false]
    rw [sizeLine_eq]
    omega
  · by_cases hk : k < 1
    · rw [if_pos hk]
      have e : k.toNat = 0 := by omega
      rw [e] at q
      exact ⟨by decide, .str _, H, I.tok _, ⟨_, rfl⟩, q⟩
    · rw [if_neg hk]
      by_cases h3 : (k == 1 || z.length == 0) = true
      · rw [if_pos h3]
        have e : (⟨(List.replicate k.toNat z.cps.toList).flatten.toArray⟩ : Str) = z := by
          rw [Bool.or_eq_true] at h3
          rcases h3 with h3 | h3
          · have e1 : k = 1 := by simpa using h3
            subst e1
            cases z
            simp
          · have e1 : z.cps.size = 0 := (by simpa using h3 : z.length = 0)
            have e2 : z.cps = #[] := Array.eq_empty_of_size_eq_zero e1
            cases z
            simp at e2
            subst e2
            simp
        rw [e] at q
        exact ⟨.str _, H, I, ⟨_, rfl⟩, q⟩
      · rw [if_neg h3, rep_str]
        refine ⟨?_, .str _, H, I.tok _, ⟨_, rfl⟩, q⟩
        show (List.replicate k.toNat z.cps.toList).flatten.toArray.size ≤ _
        have e1 : (List.replicate k.toNat z.cps.toList).flatten.toArray.size = k.toNat * z.length := by
          rw [List.size_toArray, PyProof.Rows.lm_len_rep_flat]
          rfl
        rw [e1, Nat.mul_comm, sizeLine_eq]
        omega
theorem tuple_mul1 (l : Addr) (items : Array Value) (n : Nat) (dd : Option Addr) (sl : Array (Option Value)) (u : Tok) :
    Meets (Builtin.«tuple.__mul__» ⟨[.ref l, .int 1 u], []⟩) (fun _ R s => s.heap.get? l = some { cls := .type "tuple", dict := dd, data := .seq items n, slots := sl } ∧ R (.ok (.ret (Value.ref l))) s) :=
  .of_wp fun prog w A R s h => by
    obtain ⟨hp, g, d, tk, os⟩ := s
    obtain ⟨hl, h⟩ := h
    have f1 := AutoSeq1.idx_int
    have c0 : (decide ((1 : Int) < -(2 ^ 63)) || decide ((1 : Int) ≥ 2 ^ 63)) = false := by decide
    have c1 : (items.isEmpty || (1 : Int) == 1) = true := by simp
    wp_walk using wpAny_loadPart' hl
    repeat (first
      | (refine wpAny_ite_false (decide_eq_false (by rw [c0]; exact Bool.false_ne_true)) ?_; wp_walk using wpAny_loadPart' hl)
      | (refine wpAny_ite_true (decide_eq_true c1) ?_; wp_walk using wpAny_loadPart' hl))
    exact ⟨_, rfl, h⟩
theorem op_repT1 : OpR X (binaryOp .Mult) (rRepT1 X.K) := by
  intro pins s σ H x y v u Q I rx ry h
  obtain ⟨l, xs, rfl, rfl, hT, q⟩ := h
  cases rx
  obtain ⟨t, rfl⟩ := ry
  obtain ⟨its, r, ⟨⟨cls, dd, data, sl⟩, ho, hc, n, hd⟩, hs⟩ := I.tuple hT
  simp only at hc hd
  subst hc hd
  refine wpAny_binaryOp_repeat_ref (T := "tuple") (U := "int") (by decide) ⟨_, ho, rfl⟩ (fun s' => typeIs_int s' 1 t) noFill_tuple_mul F.fills_int_mul F.slot_int_rmul repeat_tuple F.slot_int_index.lookup
    (call_meets F.slot_int_rmul (typeIs_int s 1 t) F.entry_int_rmul (F.args_int_rmul_2 _ _) (int_rmul_tuple 1 t l its.toArray n dd sl)
      ⟨ho, rfl, ⟨_, ho, rfl⟩, call_meets F.slot_tuple_mul ⟨_, ho, rfl⟩ F.entry_tuple_mul (F.args_tuple_mul_2 _ _) (tuple_mul1 l its.toArray n dd sl t) ⟨ho, ?_⟩⟩)
  exact ⟨.ref l, H, I, rfl, q⟩
theorem op_mulA : OpR X (binaryOp .Mult) (rMulA X.K) := op_mul.or (op_mulW.or (op_rep_str.or (op_rep.or (op_repT.or op_repT1))))
theorem RpAll.rep {T : Tb} {F : Hp} {vs : List V} {ds : List D} (h : RpAll T F vs ds) : ∀ k : Nat, RpAll T F (List.replicate k vs).flatten (List.replicate k ds).flatten
  | 0 => .nil
  | k + 1 => by
    rw [List.replicate_succ, List.replicate_succ, List.flatten_cons, List.flatten_cons]
    exact h.append (RpAll.rep h k)
theorem od_mul : OpD S (rMulA S.T.K) mulD := by
  intro σ H F env ad x y a b d Q sr rx ry e k
  unfold mulD at e
  split at e
  · split at e
    · rename_i i j h
      cases rx; cases ry; cases e
      have kk := k _ H F ad (Le.refl F) sr (.int _)
      unfold mulOk at h
      rw [Bool.or_eq_true, Bool.or_eq_true] at h
      rcases h with h | h | h
      · refine .inl ⟨_, _, rfl, rfl, .inl ?_, kk⟩
        unfold small64 at h
        rw [Bool.and_eq_true] at h
        exact ⟨of_decide_eq_true h.1, of_decide_eq_true h.2⟩
      · refine .inl ⟨_, _, rfl, rfl, .inr ?_, kk⟩
        unfold small64 at h
        rw [Bool.and_eq_true] at h
        exact ⟨of_decide_eq_true h.1, of_decide_eq_true h.2⟩
      · refine .inr (.inl ⟨_, _, rfl, rfl, ?_, kk⟩)
        show _ < _
        exact of_decide_eq_true h
    · cases e
  · split at e
    · rename_i h
      cases rx; cases ry; cases e
      exact .inr (.inr (.inl ⟨_, _, rfl, rfl, h.1, h.2.1, h.2.2, k _ H F ad (Le.refl F) sr (.str _)⟩))
    · cases e
  · split at e
    · rename_i xs kk h
      cases ry; cases e
      cases rx with
      | lst h1 r1 =>
        have hl := r1.length
        have hm : xs.length * kk.toNat ≤ 1000000 := Nat.le_trans (Nat.mul_le_mul h.2.2 (show kk.toNat ≤ 1000 by omega)) (by decide)
        refine .inr (.inr (.inr (.inl ⟨_, _, _, rfl, rfl, sr.sub _ _ h1, by omega, by omega, by rw [hl, sizeLine_eq]; omega, fun p hp => ?_⟩)))
        obtain ⟨F', le, sr', r'⟩ := sr.newLst (r1.rep kk.toNat) hp
        exact k _ _ F' ad le sr' r'
    · cases e
  · split at e
    · rename_i xs kk h
      cases ry; cases e
      cases rx with
      | tup h1 r1 =>
        have hl := r1.length
        by_cases h1k : kk = 1
        · subst h1k
          refine .inr (.inr (.inr (.inr (.inr ⟨_, _, rfl, rfl, sr.sub.t h1, k _ H F ad (Le.refl F) sr ?_⟩))))
          have e1 : (List.replicate (Int.toNat 1) xs).flatten = xs := by
            show xs ++ [] = xs
            rw [List.append_nil]
          rw [e1]
          exact .tup h1 r1
        refine .inr (.inr (.inr (.inr (.inl ⟨_, _, _, rfl, rfl, sr.sub.t h1, fun z => ?_, by have := h.2.1; omega, h.2.2.1, by rw [hl]; exact h.2.2.2, fun p hp => ?_⟩))))
        · subst z
          cases r1
          exact h.1 rfl
        · obtain ⟨F', le, sr', r'⟩ := sr.newTup (r1.rep kk.toNat) hp
          exact k _ _ F' ad le sr' r'
    · cases e
  · cases e
theorem od_div : OpD S (rI CDivW fun i j => .int (i / j)) divD := by
  intro σ H F env ad x y a b d Q sr rx ry e k
  unfold divD at e
  split at e
  · split at e
    · rename_i h
      cases rx; cases ry; cases e
      exact ⟨_, _, rfl, rfl, h, k _ H F ad (Le.refl F) sr (.int _)⟩
    · cases e
  · cases e
theorem od_mod : OpD S (rI (fun _ j => 0 < j) fun i j => .int (i % j)) modD := by
  intro σ H F env ad x y a b d Q sr rx ry e k
  unfold modD at e
  split at e
  · split at e
    · rename_i h
      cases rx; cases ry; cases e
      exact ⟨_, _, rfl, rfl, h, k _ H F ad (Le.refl F) sr (.int _)⟩
    · cases e
  · cases e
theorem od_pow : OpD S (rI CPow fun i j => .int (i ^ j.toNat)) powD := by
  intro σ H F env ad x y a b d Q sr rx ry e k
  unfold powD at e
  split at e
  · split at e
    · rename_i h
      cases rx; cases ry; cases e
      exact ⟨_, _, rfl, rfl, ⟨h.1, by omega, h.2.2⟩, k _ H F ad (Le.refl F) sr (.int _)⟩
    · cases e
  · cases e
end
def eqD (a b : D) : Option D := if (a.sh && b.sh) = true then some (.bl (a.eqv b)) else none
def neD (a b : D) : Option D := if (a.sh && b.sh) = true then some (.bl (!a.eqv b)) else none
def ltD : D → D → Option D
  | .int i, .int j => some (.bl (decide (i < j)))
  | .str x, .str y => some (.bl (decide (x.cps.toList < y.cps.toList)))
  | _, _ => none
def leD : D → D → Option D
  | .int i, .int j => some (.bl (decide (i ≤ j)))
  | _, _ => none
def gtD : D → D → Option D
  | .int i, .int j => some (.bl (decide (j < i)))
  | _, _ => none
def geD : D → D → Option D
  | .int i, .int j => some (.bl (decide (j ≤ i)))
  | _, _ => none
def flat : D → Bool
  | .non | .bl _ | .int _ | .str _ => true
  | _ => false
def memD : D → D → Option Bool
  | .str x, .str y => some (!(Builtin.Str.occurrences y x 0 y.length 1).isEmpty)
  | a, .lst ds => if (a.sh && (D.lst ds).sh) = true then some (ds.any fun z => z.eqv a) else none
  | a, .tup ds => if (flat a && ds.all flat) = true then some (ds.any fun z => z.eqv a) else none
  | _, _ => none
def inD (a b : D) : Option D := (memD a b).map fun k => .bl k
def isD : D → D → Option D
  | .raw _, _ => none
  | a, .non => some (.bl (match a with | .non => true | _ => false))
  | .bl a, .bl b => some (.bl (decide (a = b)))
  | _, _ => none
def notD : D → Option D
  | .bl b => some (.bl (!b))
  | _ => none
def isnD (a b : D) : Option D := (isD a b).bind notD
section
variable {S : Gd} {X : Cx}
theorem ow_eq : OpW S (rEqD S.T.K) eqD := by
  intro σ H F env ad x y a b d Q sr rx ry e k
  unfold eqD at e
  split at e
  · rename_i h
    rw [Bool.and_eq_true] at h
    cases e
    exact ⟨_, _, rx.dps h.1, ry.dps h.2, h.1, h.2, k _ H F ad (Le.refl F) sr (.bl _)⟩
  · cases e
theorem ow_ne : OpW S (rNeD S.T.K) neD := by
  intro σ H F env ad x y a b d Q sr rx ry e k
  unfold neD at e
  split at e
  · rename_i h
    rw [Bool.and_eq_true] at h
    cases e
    exact ⟨_, _, rx.dps h.1, ry.dps h.2, h.1, h.2, k _ H F ad (Le.refl F) sr (.bl _)⟩
  · cases e
def rLtA : R2 := fun x y H Q => rI0 (fun i j => .bl (decide (i < j))) x y H Q ∨ (∃ i j, x = .str i ∧ y = .str j ∧ Q (.bl (decide (i.cps.toList < j.cps.toList))) H)
theorem op_ltA : OpR X (compareOp .Lt) rLtA := op_lt.or op_lt_str
theorem ow_lt : OpW S rLtA ltD := by
  intro σ H F env ad x y a b d Q sr rx ry e k
  unfold ltD at e
  split at e
  · cases rx; cases ry; cases e
    exact .inl ⟨_, _, rfl, rfl, k _ H F ad (Le.refl F) sr (.bl _)⟩
  · cases rx; cases ry; cases e
    exact .inr ⟨_, _, rfl, rfl, k _ H F ad (Le.refl F) sr (.bl _)⟩
  · cases e
theorem ow_intb {g : Int → Int → Bool} {f : D → D → Option D} (hf : ∀ a b d, f a b = some d → ∃ i j, a = .int i ∧ b = .int j ∧ d = .bl (g i j)) : OpW S (rI0 fun i j => .bl (g i j)) f := by
  intro σ H F env ad x y a b d Q sr rx ry e k
  obtain ⟨i, j, rfl, rfl, rfl⟩ := hf a b d e
  cases rx; cases ry
  exact ⟨_, _, rfl, rfl, k _ H F ad (Le.refl F) sr (.bl _)⟩
theorem ow_le : OpW S (rI0 fun i j => .bl (decide (i ≤ j))) leD := ow_intb fun a b d e => by
  unfold leD at e
  split at e
  · cases e; exact ⟨_, _, rfl, rfl, rfl⟩
  · cases e
theorem ow_gt : OpW S (rI0 fun i j => .bl (decide (j < i))) gtD := ow_intb fun a b d e => by
  unfold gtD at e
  split at e
  · cases e; exact ⟨_, _, rfl, rfl, rfl⟩
  · cases e
theorem ow_ge : OpW S (rI0 fun i j => .bl (decide (j ≤ i))) geD := ow_intb fun a b d e => by
  unfold geD at e
  split at e
  · cases e; exact ⟨_, _, rfl, rfl, rfl⟩
  · cases e
def rInA (K : PySem.W.Frag) : R2 := fun x y H Q => (∃ i j, x = .str i ∧ y = .str j ∧ Q (.bl (!(Builtin.Str.occurrences j i 0 j.length 1).isEmpty)) H) ∨ rInD K x y H Q ∨ rIn K false x y H Q
def rNinA (K : PySem.W.Frag) : R2 := fun x y H Q => (∃ i j, x = .str i ∧ y = .str j ∧ Q (.bl (!(!(Builtin.Str.occurrences j i 0 j.length 1).isEmpty))) H) ∨ rNotInD K x y H Q ∨ rIn K true x y H Q
theorem op_inA (hu : X.A.units + 65 < cLine) : OpR X (compareOp .In) (rInA X.K) := op_in_str.or ((op_inD hu).or op_in_seq)
theorem flat_v {T : Tb} {F : Hp} {v : V} {d : D} (r : Rp T F v d) (h : flat d = true) : flatV v = true := by
  cases r <;> first | rfl | cases h
theorem flat_eq {T : Tb} {F : Hp} {v w : V} {a b : D} (r : Rp T F v a) (q : Rp T F w b) (h : flat a = true) (h2 : flat b = true) : eqV v w = a.eqv b := by
  unfold D.eqv
  cases r with
  | lst _ _ => cases h
  | tup _ _ => cases h
  | ins _ _ _ _ => cases h
  | scr _ => cases h
  | exc _ _ => cases h
  | dct _ _ _ _ => cases h
  | wd _ => cases h
  | raw _ => cases h
  | non => cases q <;> first | (simp only [D.toP, PyData.eqv, eqV]; done) | cases h2
  | bl _ => cases q <;> first | (simp only [D.toP, PyData.eqv, eqV]; done) | cases h2
  | int _ => cases q <;> first | (simp only [D.toP, PyData.eqv, eqV]; done) | cases h2
  | str _ => cases q <;> first | (simp only [D.toP, PyData.eqv, eqV]; done) | cases h2
theorem flat_all {T : Tb} {F : Hp} : ∀ {vs : List V} {ds : List D}, RpAll T F vs ds → ds.all flat = true → vs.all flatV = true
  | _, _, .nil, _ => rfl
  | _, _, .cons h t, e => by
    rw [List.all_cons, Bool.and_eq_true] at e ⊢
    exact ⟨flat_v h e.1, flat_all t e.2⟩
theorem flat_any {T : Tb} {F : Hp} {w : V} {b : D} (q : Rp T F w b) (h2 : flat b = true) : ∀ {vs : List V} {ds : List D}, RpAll T F vs ds → ds.all flat = true → (vs.any fun y => eqV y w) = ds.any fun z => z.eqv b
  | _, _, .nil, _ => rfl
  | _, _, .cons h t, e => by
    rw [List.all_cons, Bool.and_eq_true] at e
    rw [List.any_cons, List.any_cons, flat_eq h q e.1 h2, flat_any q h2 t e.2]
theorem any_toP (a : D) : ∀ ds : List D, ((toPs ds).any fun z => PyData.eqv z a.toP) = ds.any fun z => z.eqv a
  | [] => by rw [toPs]; rfl
  | d :: ds => by rw [toPs, List.any_cons, List.any_cons, any_toP a ds]; rfl
theorem ow_mem {neg : Bool} : OpW S (if neg = true then rNinA S.T.K else rInA S.T.K) (fun a b => (memD a b).map fun k => .bl (if neg = true then !k else k)) := by
  intro σ H F env ad x y a b d Q sr rx ry e k
  obtain ⟨kk, e1, e2⟩ := Option.map_eq_some_iff.mp e
  subst e2
  have kq := k _ H F ad (Le.refl F) sr (.bl _)
  unfold memD at e1
  split at e1
  · cases rx; cases ry; cases e1
    cases neg
    · exact .inl ⟨_, _, rfl, rfl, kq⟩
    · exact .inl ⟨_, _, rfl, rfl, kq⟩
  · split at e1
    · rename_i h
      rw [Bool.and_eq_true] at h
      cases e1
      have h2 := ry.dps h.2
      have s2 := h.2
      unfold D.sh at s2
      rw [D.toP] at h2 s2
      rw [← any_toP] at kq
      cases neg
      · exact .inr (.inl ⟨_, _, rx.dps h.1, h2, h.1, s2, kq⟩)
      · exact .inr (.inl ⟨_, _, rx.dps h.1, h2, h.1, s2, kq⟩)
    · cases e1
  · split at e1
    · rename_i h
      rw [Bool.and_eq_true] at h
      cases e1
      cases ry with
      | tup h1 r1 =>
        rw [← flat_any rx h.1 r1 h.2] at kq
        cases neg
        · exact .inr (.inr ⟨_, _, rfl, .inr h1, flat_v rx h.1, flat_all r1 h.2, kq⟩)
        · exact .inr (.inr ⟨_, _, rfl, .inr h1, flat_v rx h.1, flat_all r1 h.2, kq⟩)
    · cases e1
  · cases e1
theorem ow_in : OpW S (rInA S.T.K) inD := ow_mem (neg := false)
def rIsA : R2 := fun x y H Q => (y = .non ∧ Q (.bl (decide (x = .non))) H) ∨ rIsB x y H Q
def rIsnA : R2 := fun x y H Q => (y = .non ∧ Q (.bl (!decide (x = .non))) H) ∨ rNotB x y H Q
theorem op_isA : OpR X (compareOp .Is) rIsA := op_isN.or op_isBl
theorem op_isnA : OpR X (compareOp .IsNot) rIsnA := op_notN.or op_notBl
theorem ow_is : OpW S rIsA isD := by
  intro σ H F env ad x y a b d Q sr rx ry e k
  unfold isD at e
  split at e
  · cases e
  · cases ry; cases e
    have kq := k _ H F ad (Le.refl F) sr (.bl _)
    refine .inl ⟨rfl, ?_⟩
    cases rx <;> first | exact kq | (rename_i z; exact absurd rfl (z _))
  · cases rx; cases ry; cases e
    exact .inr ⟨_, _, rfl, rfl, k _ H F ad (Le.refl F) sr (.bl _)⟩
  · cases e
theorem ow_isn : OpW S rIsnA isnD := by
  intro σ H F env ad x y a b d Q sr rx ry e k
  unfold isnD isD at e
  split at e
  · cases e
  · cases ry; cases e
    have kq := k _ H F ad (Le.refl F) sr (.bl _)
    refine .inl ⟨rfl, ?_⟩
    cases rx <;> first | exact kq | (rename_i z; exact absurd rfl (z _))
  · cases rx; cases ry; cases e
    exact .inr ⟨_, _, rfl, rfl, k _ H F ad (Le.refl F) sr (.bl _)⟩
  · cases e
end
end DL
set_option Elab.async false
set_option linter.all false
set_option maxRecDepth 100000
set_option maxHeartbeats 2000000
namespace DL
open PySem PySem.Spec PyProof.Rows L2
section
variable {X : Cx} {S : Gd} {W : WX} {e a b c : Expr} {es : List Expr} {pos p2 : Pos} {m ma mb mc : M D} {l : M (List D)}
def eChain (f g : D → D → Option D) (ma mb mc : M D) : M D := fun env => (ma env).bind fun x e1 => (mb e1).bind fun y e2 => (lift (f x y) e2).bind fun z e3 => match z with
  | .bl true => (mc e3).bind fun w e4 => lift (g y w) e4
  | .bl false => .ok (.bl false) e3
  | _ => .bad
theorem t_chain {r r' : R2} {f g : D → D → Option D} (hf : OpW S r f) (hg : OpW S r' g) {σ : L2.St} {H : Hp} {Q : VK} (h : tD S W (eChain f g ma mb mc) σ H Q) : tChain r r' (tD S W ma) (tD S W mb) (tD S W mc) σ H Q := by
  obtain ⟨F, env, ad, sr, p⟩ := h
  refine ⟨F, env, ad, sr, p.bind.imp fun x e1 H1 F1 ad1 le1 sr1 q v1 r1 => ⟨F1, e1, ad1, sr1, q.2.bind.imp fun y e2 H2 F2 ad2 le2 sr2 q2 v2 r2 => ?_⟩⟩
  have q3 := q2.2.bind
  obtain ⟨d, e3, q4⟩ := Post.lift q3
  refine hf σ H2 F2 e2 ad2 v1 v2 x y d _ sr2 ((r1.mono le2).mono sr2.sub) (r2.mono sr2.sub) e3 fun v H3 F3 ad3 le3 sr3 r3 => ?_
  have q5 := (q4 H3 F3 ad3 le3 sr3).2
  cases r3 with
  | bl k =>
    cases k with
    | true =>
      refine ⟨true, rfl, ?_⟩
      rw [if_pos rfl]
      refine ⟨F3, e2, ad3, sr3, q5.bind.imp fun w e4 H4 F4 ad4 le4 sr4 q6 v4 r4 => ?_⟩
      obtain ⟨d2, e5, q7⟩ := Post.lift q6.2
      exact hg σ H4 F4 e4 ad4 v2 v4 y w d2 Q sr4 (((r2.mono le3).mono le4).mono sr4.sub) (r4.mono sr4.sub) e5 fun v H' F' ad' le sr' r' => q7 H' F' ad' le sr' v r'
    | false =>
      refine ⟨false, rfl, ?_⟩
      rw [if_neg Bool.false_ne_true]
      exact q5 H3 F3 ad3 (Le.refl F3) sr3 _ (.bl false)
  | non => exact q5.elim
  | int _ => exact q5.elim
  | str _ => exact q5.elim
  | lst _ _ => exact q5.elim
  | tup _ _ => exact q5.elim
  | ins _ _ _ _ => exact q5.elim
  | scr _ => exact q5.elim
  | exc _ _ => exact q5.elim
  | dct _ _ _ _ => exact q5.elim
  | wd _ => exact q5.elim
  | raw _ => exact q5.elim
theorem dt_chain {op op' : CmpOp} {r r' : R2} {f g : D → D → Option D} (ho : OpR X (compareOp op) r) (ho' : OpR X (compareOp op') r') (hf : OpW S r f) (hg : OpW S r' g) (ha : PE X a (tD S W ma)) (hb : PE X b (tD S W mb)) (hc : PE X c (tD S W mc))
    (hm : lastMarks [op, op'] [b, c] = false := by with_unfolding_all rfl) : PT X (.Compare a [op, op'] [b, c] pos) (tT S W (asB (eChain f g ma mb mc))) :=
  PT.imp (pt_chain ho ho' ha hb hc hm) fun σ H Q h => t_chain hf hg (t_asB h)
def ixD : D → D → Option D
  | .lst ds, .int i => atI ds i
  | .tup ds, .int i => atI ds i
  | .scr ns, .int i => (atI ns i).map D.int
  | .str z, .int i => if z.length ≤ sizeLine then (atI z.cps.toList i).map fun k => .str ⟨#[k]⟩ else none
  | _, _ => none
theorem atI_rp {T : Tb} {F : Hp} {vs : List V} {ds : List D} {i : Int} {d : D} (r : RpAll T F vs ds) (h : atI ds i = some d) : ∃ v, atI vs i = some v ∧ Rp T F v d := by
  unfold atI at h ⊢
  rw [r.length]
  cases q : ixN ds.length i with
  | none => rw [q] at h; cases h
  | some j =>
    rw [q] at h
    exact r.get h
theorem atI_map {α β : Type} {g : α → β} {xs : List α} {i : Int} : atI (xs.map g) i = (atI xs i).map g := by
  unfold atI
  rw [List.length_map]
  cases ixN xs.length i with
  | none => rfl
  | some j => exact List.getElem?_map ..
theorem od_ix : OpD S (rIx S.T.K) ixD := by
  intro σ H F env ad x y a b d Q sr rx ry e k
  unfold ixD at e
  split at e
  · cases ry
    cases rx with
    | lst h1 r1 =>
      obtain ⟨v, e1, e2⟩ := atI_rp r1 e
      exact .inl ⟨_, _, _, v, rfl, rfl, .of (sr.sub _ _ h1), e1, k v H F ad (Le.refl F) sr e2⟩
  · cases ry
    cases rx with
    | tup h1 r1 =>
      obtain ⟨v, e1, e2⟩ := atI_rp r1 e
      exact .inr (.inl ⟨_, _, _, v, rfl, rfl, sr.sub.t h1, e1, k v H F ad (Le.refl F) sr e2⟩)
  · cases ry
    cases rx with
    | scr h1 =>
      obtain ⟨n, e1, e2⟩ := Option.map_eq_some_iff.mp e
      subst e2
      exact .inl ⟨_, _, _, .int n, rfl, rfl, sr.sub.l h1, by rw [atI_map, e1]; rfl, k _ H F ad (Le.refl F) sr (.int n)⟩
  · split at e
    · rename_i h
      cases ry
      cases rx
      obtain ⟨n, e1, e2⟩ := Option.map_eq_some_iff.mp e
      subst e2
      exact .inr (.inr ⟨_, _, n, rfl, rfl, h, e1, k _ H F ad (Le.refl F) sr (.str _)⟩)
    · cases e
  · cases e
theorem de_ix (ha : PE X a (tD S W ma)) (hb : PE X b (tD S W mb)) (hK : X.K = S.T.K := by rfl) (hs : PlainIx b := by exact fun _ _ => rfl) : PE X (.Subscript a b pos) (tD S W (eOp ixD ma mb)) :=
  PE.imp (pe_ix (ix_seq (X := X)) ha hb hs) fun σ H Q h => by
    rw [hK]
    exact t_op od_ix h
def ixV : Slot → D → Option D
  | .dat d, y => ixD d y
  | .own (.ol ds), .int i => atI ds i
  | .lent (.ol ds), .int i => atI ds i
  | _, _ => none
def eIxV (i : Nat) (mb : M D) : M D := fun env => match env[i]? with
  | some .emp => .bad
  | none => .bad
  | _ => (mb env).bind fun y e2 => match e2[i]? with
    | some s => lift (ixV s y) e2
    | none => .bad
theorem t_ixV {i : Nat} {σ : L2.St} {H : Hp} {Q : VK} (h : tD S W (eIxV i mb) σ H Q) : tOp (rIx S.T.K) (tVar i) (tD S W mb) σ H Q := by
  obtain ⟨F, env, ad, sr, p⟩ := h
  unfold eIxV at p
  have key : ∀ s, env[i]? = some s → s ≠ .emp → Post S W σ F ((mb env).bind fun y e2 => match e2[i]? with | some s => lift (ixV s y) e2 | none => .bad) (fun d _ H' F' _ => ∀ v, Rp S.T F' v d → Q v H') → tOp (rIx S.T.K) (tVar i) (tD S W mb) σ H Q := fun s q ns p2 => by
    obtain ⟨v, hv⟩ := some_of_slot sr q ns
    refine ⟨v, hv, F, env, ad, sr, p2.bind.imp fun y e2 H2 F2 ad2 le2 sr2 q2 v2 r2 => ?_⟩
    have q3 := q2.2
    cases q4 : e2[i]? with
    | none => rw [q4] at q3; exact q3.elim
    | some s2 =>
      rw [q4] at q3
      obtain ⟨d, e4, q5⟩ := Post.lift q3
      have hat := sr2.at_ i _ q4
      unfold ixV at e4
      split at e4
      · obtain ⟨_, v', hv', rx⟩ := hat
        rw [hv] at hv'
        cases hv'
        exact od_ix σ H2 F2 e2 ad2 v v2 _ y d Q sr2 rx r2 e4 fun v H' F' ad' le sr' r' => q5 H' F' ad' le sr' v r'
      · obtain ⟨b, hv', _, vs, h1, h2⟩ := hat
        rw [hv] at hv'
        cases hv'
        cases r2
        obtain ⟨u, x1, x2⟩ := atI_rp h2 e4
        exact .inl ⟨_, _, _, u, rfl, rfl, .of h1, x1, q5 H2 F2 ad2 (Le.refl F2) sr2 u x2⟩
      · obtain ⟨b, hv', _, vs, h1, h2⟩ := hat
        rw [hv] at hv'
        cases hv'
        cases r2
        obtain ⟨u, x1, x2⟩ := atI_rp h2 e4
        exact .inl ⟨_, _, _, u, rfl, rfl, .of h1, x1, q5 H2 F2 ad2 (Le.refl F2) sr2 u x2⟩
      · cases e4
  cases q : env[i]? with
  | none => rw [q] at p; exact p.elim
  | some s =>
    rw [q] at p
    cases s with
    | emp => exact p.elim
    | dat d => exact key _ q (by intro z; cases z) p
    | own o => exact key _ q (by intro z; cases z) p
    | lent o => exact key _ q (by intro z; cases z) p
theorem de_ixV (i : Nat) (ha : PE X a (tVar i)) (hb : PE X b (tD S W mb)) (hK : X.K = S.T.K := by rfl) (hs : PlainIx b := by exact fun _ _ => rfl) : PE X (.Subscript a b pos) (tD S W (eIxV i mb)) :=
  PE.imp (pe_ix (ix_seq (X := X)) ha hb hs) fun σ H Q h => by
    rw [hK]
    exact t_ixV h
def tP (S : Gd) (W : WX) (m : M (Option Int)) : TO := fun σ H Q => ∃ F env ad, SR S σ H F env ad ∧ Post S W σ F (m env) fun o _ H' _ _ => Q o H'
def pNo : M (Option Int) := fun env => .ok none env
def pSo (m : M D) : M (Option Int) := fun env => (m env).bind fun d e => match d with
  | .int i => .ok (some i) e
  | _ => .bad
theorem dp_no : PO X none (tP S W pNo) := ⟨fun pins s σ H Q I h => (po_none (X := X)).run pins s σ H Q I (by
  obtain ⟨F, env, ad, sr, p⟩ := h
  exact p H F ad (Le.refl F) sr)⟩
theorem dp_so (h : PE X e (tD S W m)) : PO X (some e) (tP S W (pSo m)) := ⟨fun pins s σ H Q I q => (po_some h).run pins s σ H Q I (by
  obtain ⟨F, env, ad, sr, p⟩ := q
  refine ⟨F, env, ad, sr, p.bind.imp fun d e1 H1 F1 ad1 le1 sr1 q v r => ?_⟩
  have q2 := q.2
  cases r with
  | int i => exact ⟨i, rfl, q2 H1 F1 ad1 (Le.refl F1) sr1⟩
  | non => exact q2.elim
  | bl _ => exact q2.elim
  | str _ => exact q2.elim
  | lst _ _ => exact q2.elim
  | tup _ _ => exact q2.elim
  | ins _ _ _ _ => exact q2.elim
  | scr _ => exact q2.elim
  | exc _ _ => exact q2.elim
  | dct _ _ _ _ => exact q2.elim
  | wd _ => exact q2.elim
  | raw _ => exact q2.elim)⟩
def cutD (ds : List D) (lo hi : Option Int) : List D := (ds.drop (HT.sIx ds.length 0 lo)).take (HT.sIx ds.length ds.length hi - HT.sIx ds.length 0 lo)
theorem cut_rp {T : Tb} {F : Hp} {vs : List V} {ds : List D} {lo hi : Option Int} (r : RpAll T F vs ds) : RpAll T F (cutV vs lo hi) (cutD ds lo hi) := by
  unfold cutV cutD
  rw [r.length]
  exact (r.drop _).take _
def slD : D → Option Int → Option Int → Option D
  | .str z, lo, hi => if z.length ≤ sizeLine then some (.str (cutS z lo hi)) else none
  | .lst ds, lo, hi => some (.lst (cutD ds lo hi))
  | .tup ds, lo, hi => some (.tup (cutD ds lo hi))
  | _, _, _ => none
def rSlAll (K : PySem.W.Frag) : V → Option Int → Option Int → Hp → VK → Prop := fun x lo hi H Q => rSlS x lo hi H Q ∨ rSlL K x lo hi H Q ∨ rSlA K x lo hi H Q
theorem sl_all : SlR X (rSlAll X.K) := sl_str.or (sl_list.or sl_tupA)
def eSl (m : M D) (lo hi : M (Option Int)) : M D := fun env => (m env).bind fun x e1 => (lo e1).bind fun l e2 => (hi e2).bind fun h e3 => lift (slD x l h) e3
theorem de_slice {lo hi : Option Expr} {ml mh : M (Option Int)} (he : PE X e (tD S W m)) (hl : PO X lo (tP S W ml)) (hh : PO X hi (tP S W mh)) (hK : X.K = S.T.K := by rfl) : PE X (.Subscript e (.Slice lo hi none p2) pos) (tD S W (eSl m ml mh)) :=
  PE.imp (pe_slice sl_all he hl hh) fun σ H Q ⟨F, env, ad, sr, p⟩ => ⟨F, env, ad, sr, p.bind.imp fun x e1 H1 F1 ad1 le1 sr1 q v r => ⟨F1, e1, ad1, sr1, q.2.bind.imp fun lo e2 H2 F2 ad2 le2 sr2 q2 => ⟨F2, e2, ad2, sr2, q2.2.bind.imp fun hi e3 H3 F3 ad3 le3 sr3 q3 => by
    obtain ⟨d, e4, q4⟩ := Post.lift q3.2
    have rx := (r.mono le2).mono le3
    rw [hK]
    unfold slD at e4
    split at e4
    · split at e4
      · rename_i h
        cases rx; cases e4
        exact .inl ⟨_, rfl, h, q4 H3 F3 ad3 (Le.refl F3) sr3 _ (.str _)⟩
      · cases e4
    · cases e4
      cases rx with
      | lst h1 r1 =>
        refine .inr (.inl ⟨_, _, rfl, .of (sr3.sub _ _ h1), fun p hp => ?_⟩)
        obtain ⟨F', le, sr', r'⟩ := sr3.newLst (cut_rp r1) hp
        exact q4 _ F' ad3 le sr' _ r'
    · cases e4
      cases rx with
      | tup h1 r1 =>
        refine .inr (.inr ⟨_, _, rfl, sr3.sub.t h1, fun z => ?_, fun _ p hp => ?_⟩)
        · have e5 : ∀ ds : List D, ds.length = _ → cutD ds lo hi = ds := fun ds hd => by
            unfold cutD
            rw [hd, z.1, z.2]
            rw [List.drop_zero, Nat.sub_zero, List.take_of_length_le (Nat.le_of_eq hd)]
          rw [e5 _ r1.length.symm] at q4
          exact q4 H3 F3 ad3 (Le.refl F3) sr3 _ (.tup h1 r1)
        · obtain ⟨F', le, sr', r'⟩ := sr3.newTup (cut_rp r1) hp
          exact q4 _ F' ad3 le sr' _ r'
    · cases e4⟩⟩⟩
def CallD (S : Gd) (r : List V → Hp → VK → Prop) (f : List D → Option D) : Prop := ∀ (σ : L2.St) (H F : Hp) (env : Env) (ad : Nat → List Addr) (xs : List V) (ds : List D) (d : D) (Q : VK), SR S σ H F env ad → RpAll S.T F xs ds → f ds = some d →
  (∀ v H' F' ad', Le F F' → SR S σ H' F' env ad' → Rp S.T F' v d → Q v H') → r xs H Q
def eCall (f : List D → Option D) (l : M (List D)) : M D := fun env => (l env).bind fun ds e => lift (f ds) e
theorem t_cb {r : List V → Hp → VK → Prop} {f : List D → Option D} (hd : CallD S r f) {σ : L2.St} {H : Hp} {Q : VK} (h : tD S W (eCall f l) σ H Q) : tCB r (tL S W l) σ H Q := by
  obtain ⟨F, env, ad, sr, p⟩ := h
  refine ⟨F, env, ad, sr, p.bind.imp fun ds e1 H1 F1 ad1 le1 sr1 q vs rs => ?_⟩
  obtain ⟨d, e3, q3⟩ := Post.lift q.2
  exact hd σ H1 F1 e1 ad1 vs ds d Q sr1 rs e3 fun v H' F' ad' le sr' r' => q3 H' F' ad' le sr' v r'
theorem de_callB {id : String} {x : Str} {p : Pos} {r : List V → Hp → VK → Prop} {f : List D → Option D} (hc : CallR X (.builtin id) r) (hd : CallD S r f) (hg : Gl X x) (hm : X.mg x = none) (hv : bootBuiltins x = some (.builtin id)) (ha : PA X (e :: es) (tL S W l))
    (hn : x ≠ "__name__" := by decide) (hdb : (x == ("__debug__" : Str)) = false := by decide) (he : starEach (e :: es) X.env = (false, eval e X.env) :: starEach es X.env := by exact star_ok _ _ _ rfl) (hpl : (backTo pos (starEach es X.env)).any (·.1) = false := by rfl) : PE X (.Call (.Name x p) (e :: es) [] pos) (tD S W (eCall f l)) :=
  PE.imp (pe_callB hc hg hm hv ha hn hdb he hpl) fun σ H Q h => t_cb hd h
theorem de_callTy {id : String} {x : Str} {p : Pos} {r : List V → Hp → VK → Prop} {f : List D → Option D} (hc : CallR X (.type id) r) (hd : CallD S r f) (hg : Gl X x) (hm : X.mg x = none) (hv : bootBuiltins x = some (.type id)) (ha : PA X (e :: es) (tL S W l))
    (hn : x ≠ "__name__" := by decide) (hdb : (x == ("__debug__" : Str)) = false := by decide) (he : starEach (e :: es) X.env = (false, eval e X.env) :: starEach es X.env := by exact star_ok _ _ _ rfl) (hpl : (backTo pos (starEach es X.env)).any (·.1) = false := by rfl) : PE X (.Call (.Name x p) (e :: es) [] pos) (tD S W (eCall f l)) :=
  PE.imp (pe_callTy hc hg hm hv ha hn hdb he hpl) fun σ H Q h => t_cb hd h
end
end DL
set_option Elab.async false
set_option linter.all false
set_option maxRecDepth 100000
set_option maxHeartbeats 2000000
namespace DL
open PySem PySem.Spec PyProof.Rows L2
section
variable {X : Cx} {S : Gd} {W : WX} {e a b c : Expr} {es : List Expr} {pos p p2 : Pos} {m ma mb mc : M D} {l : M (List D)}
def lenD : D → Option D
  | .str z => if z.length ≤ sizeLine then some (.int z.length) else none
  | .lst ds => some (.int ds.length)
  | .tup ds => some (.int ds.length)
  | .scr ns => some (.int ns.length)
  | _ => none
theorem de_len (ha : PE X a (tW S W m)) (hg : Gl X "len") (hm : X.mg "len" = none) (hK : X.K = S.T.K := by rfl) (he : starEach [a] X.env = (false, eval a X.env) :: starEach [] X.env := by rfl) : PE X (.Call (.Name "len" p) [a] [] pos) (tD S W (eUn lenD m)) :=
  PE.imp (pe_callB call_len hg hm boot_len (pa_cons ha pa_nil he) (by decide) (by decide) he (by rfl)) fun σ H Q ⟨F, env, ad, sr, p⟩ => ⟨F, env, ad, sr, p.bind.imp fun x e1 H1 F1 ad1 le1 sr1 q v r => by
    obtain ⟨d, e4, q4⟩ := Post.lift q.2
    rw [hK]
    unfold lenD at e4
    split at e4
    · split at e4
      · rename_i h
        cases r; cases e4
        exact ⟨_, _, rfl, ⟨h, rfl⟩, q4 H1 F1 ad1 (Le.refl F1) sr1 _ (.int _)⟩
      · cases e4
    · cases e4
      cases r with
      | lst h1 r1 =>
        rw [← r1.length] at q4
        exact ⟨_, _, rfl, .inl ⟨_, .of h1, rfl⟩, q4 H1 F1 ad1 (Le.refl F1) sr1 _ (.int _)⟩
    · cases e4
      cases r with
      | tup h1 r1 =>
        rw [← r1.length] at q4
        exact ⟨_, _, rfl, .inr ⟨_, h1, rfl⟩, q4 H1 F1 ad1 (Le.refl F1) sr1 _ (.int _)⟩
    · cases e4
      cases r with
      | scr h1 =>
        exact ⟨_, _, rfl, .inl ⟨_, h1, (List.length_map ..).symm⟩, q4 H1 F1 ad1 (Le.refl F1) sr1 _ (.int _)⟩
    · cases e4⟩
def tyN : D → Option String
  | .non => some "NoneType"
  | .bl _ => some "bool"
  | .int _ => some "int"
  | .str _ => some "str"
  | .lst _ => some "list"
  | .tup _ => some "tuple"
  | .scr _ => some "list"
  | .ins _ _ _ => none
  | .raw _ => none
  | .exc _ => none
  | .dct _ _ => none
  | .wd _ => none
def isiT (t T : String) : Bool := t == T || (t == "bool" && T == "int")
def isiD (T : String) (d : D) : Option D := (tyN d).map fun t => .bl (isiT t T)
theorem SqT.ty {K : PySem.W.Frag} {H : Hp} {a : Addr} {xs : List V} (h : SqT K H a xs) : TyX K H (.ref a) (.type "tuple") := by
  rcases h with (h | ⟨o, h⟩) | ⟨o, its, n, h1, h2, _⟩
  · exact .base (.tup h)
  · exact .fTuple h
  · exact .kTuple h1 h2
theorem SqL.ty {K : PySem.W.Frag} {H : Hp} {a : Addr} {xs : List V} (h : SqL K H a xs) : TyX K H (.ref a) (.type "list") := by
  rcases h with (h | ⟨o, h⟩) | ⟨o, its, n, h1, h2, _⟩
  · exact .base (.lst h)
  · exact .base (.frz h)
  · exact .kList h1 h2
theorem rp_ty {T : Tb} {F : Hp} {v : V} {d : D} {t : String} (r : Rp T F v d) (h : tyN d = some t) : TyX T.K F v (.type t) := by
  cases r with
  | non => cases h; exact .base .non
  | bl b => cases h; exact .base (.bl b)
  | int i => cases h; exact .base (.int i)
  | str x => cases h; exact .base (.str x)
  | lst h1 _ => cases h; exact SqL.ty (.of h1)
  | tup h1 _ => cases h; exact SqT.ty h1
  | ins _ _ _ _ => cases h
  | scr h1 => cases h; exact SqL.ty h1
  | exc _ _ => cases h
  | dct _ _ _ _ => cases h
  | wd _ => cases h
  | raw _ => cases h
def isiOk (T : String) : Bool := ["NoneType", "bool", "int", "str", "list", "tuple"].all fun t => decide (kitB t T = some (isiT t T))
theorem isi_str : isiOk "str" = true := by decide +kernel
theorem isi_tuple : isiOk "tuple" = true := by decide +kernel
theorem isi_of {T t : String} {d : D} (h : isiOk T = true) (e : tyN d = some t) : kitB t T = some (isiT t T) := by
  unfold isiOk at h
  rw [List.all_eq_true] at h
  refine of_decide_eq_true (h t ?_)
  cases d <;> cases e <;> simp
theorem de_isi {x T : Str} {n : String} {px : Pos} (ok : isiOk n = true) (ha : PE X a (tD S W m)) (hg : Gl X "isinstance") (hm : X.mg "isinstance" = none) (hgT : Gl X T) (hmT : X.mg T = none) (hT : bootBuiltins T = some (.type n)) (hnT : T ≠ "__name__" := by decide) (hdT : (T == ("__debug__" : Str)) = false := by decide) (hK : X.K = S.T.K := by rfl)
    (he : starEach [a, .Name T px] X.env = (false, eval a X.env) :: starEach [.Name T px] X.env := by rfl) (he2 : starEach [.Name T px] X.env = (false, eval (.Name T px) X.env) :: starEach [] X.env := by rfl)
    (hpl : (backTo pos (starEach [.Name T px] X.env)).any (·.1) = false := by rfl) : PE X (.Call (.Name "isinstance" p) [a, .Name T px] [] pos) (tD S W (eUn (isiD n) m)) :=
  PE.imp (pe_callB call_isi hg hm (by decide +kernel) (pa_cons ha (pa_cons (pe_bltn (v := .ty n) hgT hmT hT rfl hnT hdT) pa_nil he2) he) (by decide) (by decide) he hpl) fun σ H Q ⟨F, env, ad, sr, p⟩ => ⟨F, env, ad, sr, p.bind.imp fun d e1 H1 F1 ad1 le1 sr1 q v r => by
    obtain ⟨d2, e4, q4⟩ := Post.lift q.2
    rw [hK]
    obtain ⟨t, e5, e6⟩ := Option.map_eq_some_iff.mp e4
    subst e6
    exact ⟨_, _, _, _, _, rfl, .ty n, rp_ty (r.mono sr1.sub) e5, kit_ty (isi_of ok e5), q4 H1 F1 ad1 (Le.refl F1) sr1 _ (.bl _)⟩⟩
def blsD : List D → Option (List Bool)
  | [] => some []
  | .bl b :: r => (blsD r).map (b :: ·)
  | _ => none
theorem bls_rp {T : Tb} {F : Hp} : ∀ {vs : List V} {ds : List D} {bs : List Bool}, RpAll T F vs ds → blsD ds = some bs → vs = bs.map V.bl
  | _, _, _, .nil, e => by cases e; rfl
  | _, _, _, .cons (v := v) (d := d) h t, e => by
    unfold blsD at e
    split at e
    · cases e; rename_i q; cases q
    · rename_i q
      cases q
      obtain ⟨bs', e1, e2⟩ := Option.map_eq_some_iff.mp e
      subst e2
      cases h
      rw [bls_rp t e1]
      rfl
    · cases e
def intsD : List D → Option (List Int)
  | [] => some []
  | .int b :: r => (intsD r).map (b :: ·)
  | _ => none
theorem ints_rp {T : Tb} {F : Hp} : ∀ {vs : List V} {ds : List D} {ns : List Int}, RpAll T F vs ds → intsD ds = some ns → vs = ns.map V.int
  | _, _, _, .nil, e => by cases e; rfl
  | _, _, _, .cons (v := v) (d := d) h t, e => by
    unfold intsD at e
    split at e
    · cases e; rename_i q; cases q
    · rename_i q
      cases q
      obtain ⟨bs', e1, e2⟩ := Option.map_eq_some_iff.mp e
      subst e2
      cases h
      rw [ints_rp t e1]
      rfl
    · cases e
def allD : List D → Option D
  | [.lst ds] => (blsD ds).map fun bs => .bl (bs.all id)
  | _ => none
def anyD : List D → Option D
  | [.lst ds] => (blsD ds).map fun bs => .bl (bs.any id)
  | _ => none
def sumD : List D → Option D
  | [.lst ds] => (intsD ds).map fun ns => .int ns.sum
  | _ => none
theorem cd_all : CallD S (rAll S.T.K) allD := by
  intro σ H F env ad xs ds d Q sr r e k
  unfold allD at e
  split at e
  · obtain ⟨bs, e1, e2⟩ := Option.map_eq_some_iff.mp e
    subst e2
    cases r with
    | cons h t =>
      cases t
      cases h with
      | lst h1 r1 =>
        have e3 := bls_rp r1 e1
        subst e3
        exact ⟨_, bs, rfl, .of (sr.sub _ _ h1), k _ H F ad (Le.refl F) sr (.bl _)⟩
  · cases e
theorem cd_any : CallD S (rAny S.T.K) anyD := by
  intro σ H F env ad xs ds d Q sr r e k
  unfold anyD at e
  split at e
  · obtain ⟨bs, e1, e2⟩ := Option.map_eq_some_iff.mp e
    subst e2
    cases r with
    | cons h t =>
      cases t
      cases h with
      | lst h1 r1 =>
        have e3 := bls_rp r1 e1
        subst e3
        exact ⟨_, bs, rfl, .of (sr.sub _ _ h1), k _ H F ad (Le.refl F) sr (.bl _)⟩
  · cases e
theorem cd_sum : CallD S (rSum S.T.K) sumD := by
  intro σ H F env ad xs ds d Q sr r e k
  unfold sumD at e
  split at e
  · obtain ⟨bs, e1, e2⟩ := Option.map_eq_some_iff.mp e
    subst e2
    cases r with
    | cons h t =>
      cases t
      cases h with
      | lst h1 r1 =>
        have e3 := ints_rp r1 e1
        subst e3
        exact ⟨_, bs, rfl, .of (sr.sub _ _ h1), k _ H F ad (Le.refl F) sr (.int _)⟩
  · cases e
def maxL : List Int → Option Int
  | [] => none
  | n :: r => some (r.foldl max n)
def minL : List Int → Option Int
  | [] => none
  | n :: r => some (r.foldl min n)
theorem foldl_max_spec : ∀ (r : List Int) (n : Int), (r.foldl max n = n ∨ r.foldl max n ∈ r) ∧ n ≤ r.foldl max n ∧ ∀ y ∈ r, y ≤ r.foldl max n
  | [], n => ⟨.inl rfl, Int.le_refl _, fun y h => by cases h⟩
  | x :: r, n => by
    obtain ⟨h1, h2, h3⟩ := foldl_max_spec r (max n x)
    refine ⟨?_, Int.le_trans (Int.le_max_left ..) h2, fun y hy => ?_⟩
    · rcases h1 with h1 | h1
      · rw [List.foldl_cons, h1]
        rcases Int.le_total n x with z | z
        · rw [Int.max_eq_right z]; exact .inr (List.mem_cons_self ..)
        · rw [Int.max_eq_left z]; exact .inl rfl
      · exact .inr (List.mem_cons_of_mem _ h1)
    · rcases List.mem_cons.mp hy with z | z
      · rw [z]; exact Int.le_trans (Int.le_max_right ..) h2
      · exact h3 y z
theorem foldl_min_spec : ∀ (r : List Int) (n : Int), (r.foldl min n = n ∨ r.foldl min n ∈ r) ∧ r.foldl min n ≤ n ∧ ∀ y ∈ r, r.foldl min n ≤ y
  | [], n => ⟨.inl rfl, Int.le_refl _, fun y h => by cases h⟩
  | x :: r, n => by
    obtain ⟨h1, h2, h3⟩ := foldl_min_spec r (min n x)
    refine ⟨?_, Int.le_trans h2 (Int.min_le_left ..), fun y hy => ?_⟩
    · rcases h1 with h1 | h1
      · rw [List.foldl_cons, h1]
        rcases Int.le_total n x with z | z
        · rw [Int.min_eq_left z]; exact .inl rfl
        · rw [Int.min_eq_right z]; exact .inr (List.mem_cons_self ..)
      · exact .inr (List.mem_cons_of_mem _ h1)
    · rcases List.mem_cons.mp hy with z | z
      · rw [z]; exact Int.le_trans h2 (Int.min_le_right ..)
      · exact h3 y z
theorem maxL_spec {ns : List Int} {n : Int} (h : maxL ns = some n) : n ∈ ns ∧ ∀ y ∈ ns, y ≤ n := by
  cases ns with
  | nil => cases h
  | cons x r =>
    cases h
    obtain ⟨h1, h2, h3⟩ := foldl_max_spec r x
    refine ⟨?_, fun y hy => ?_⟩
    · rcases h1 with z | z
      · exact List.mem_cons.mpr (.inl z)
      · exact List.mem_cons_of_mem _ z
    · rcases List.mem_cons.mp hy with z | z
      · rw [z]; exact h2
      · exact h3 y z
theorem minL_spec {ns : List Int} {n : Int} (h : minL ns = some n) : n ∈ ns ∧ ∀ y ∈ ns, n ≤ y := by
  cases ns with
  | nil => cases h
  | cons x r =>
    cases h
    obtain ⟨h1, h2, h3⟩ := foldl_min_spec r x
    refine ⟨?_, fun y hy => ?_⟩
    · rcases h1 with z | z
      · exact List.mem_cons.mpr (.inl z)
      · exact List.mem_cons_of_mem _ z
    · rcases List.mem_cons.mp hy with z | z
      · rw [z]; exact h2
      · exact h3 y z
def maxD : List D → Option D
  | [.lst ds] => ((intsD ds).bind maxL).map D.int
  | [.int i, .int j] => some (.int (if j > i then j else i))
  | _ => none
def minD : List D → Option D
  | [.lst ds] => ((intsD ds).bind minL).map D.int
  | [.int i, .int j] => some (.int (if j < i then j else i))
  | _ => none
def rMaxA (K : PySem.W.Frag) : List V → Hp → VK → Prop := fun xs H Q => rMax K xs H Q ∨ ∃ i j, xs = [.int i, .int j] ∧ Q (.int (if j > i then j else i)) H
def rMinA (K : PySem.W.Frag) : List V → Hp → VK → Prop := fun xs H Q => rMin K xs H Q ∨ ∃ i j, xs = [.int i, .int j] ∧ Q (.int (if j < i then j else i)) H
theorem cr_maxA (hc : X.calm = true) : CallR X (.builtin "max") (rMaxA X.K) := (cr_max hc).or (call_max2 hc)
theorem cr_minA (hc : X.calm = true) : CallR X (.builtin "min") (rMinA X.K) := (cr_min hc).or (call_min2 hc)
theorem cd_max : CallD S (rMaxA S.T.K) maxD := by
  intro σ H F env ad xs ds d Q sr r e k
  unfold maxD at e
  split at e
  · obtain ⟨n, e1, e2⟩ := Option.map_eq_some_iff.mp e
    obtain ⟨ns, e3, e4⟩ := Option.bind_eq_some_iff.mp e1
    subst e2
    cases r with
    | cons h t =>
      cases t
      cases h with
      | lst h1 r1 =>
        have e5 := ints_rp r1 e3
        subst e5
        obtain ⟨m1, m2⟩ := maxL_spec e4
        refine .inl ⟨_, ns, rfl, .of (sr.sub _ _ h1), List.length_pos_of_mem m1, fun m' hm hmax => ?_⟩
        have e6 : m' = n := Int.le_antisymm (m2 m' hm) (hmax n m1)
        rw [e6]
        exact k _ H F ad (Le.refl F) sr (.int _)
  · cases e
    cases r with
    | cons h t =>
      cases t with
      | cons h2 t2 =>
        cases t2; cases h; cases h2
        exact .inr ⟨_, _, rfl, k _ H F ad (Le.refl F) sr (.int _)⟩
  · cases e
theorem cd_min : CallD S (rMinA S.T.K) minD := by
  intro σ H F env ad xs ds d Q sr r e k
  unfold minD at e
  split at e
  · obtain ⟨n, e1, e2⟩ := Option.map_eq_some_iff.mp e
    obtain ⟨ns, e3, e4⟩ := Option.bind_eq_some_iff.mp e1
    subst e2
    cases r with
    | cons h t =>
      cases t
      cases h with
      | lst h1 r1 =>
        have e5 := ints_rp r1 e3
        subst e5
        obtain ⟨m1, m2⟩ := minL_spec e4
        refine .inl ⟨_, ns, rfl, .of (sr.sub _ _ h1), List.length_pos_of_mem m1, fun m' hm hmax => ?_⟩
        have e6 : m' = n := Int.le_antisymm (hmax n m1) (m2 m' hm)
        rw [e6]
        exact k _ H F ad (Le.refl F) sr (.int _)
  · cases e
    cases r with
    | cons h t =>
      cases t with
      | cons h2 t2 =>
        cases t2; cases h; cases h2
        exact .inr ⟨_, _, rfl, k _ H F ad (Le.refl F) sr (.int _)⟩
  · cases e
def tupleD : List D → Option D
  | [.lst ds] => some (.tup ds)
  | [.tup ds] => some (.tup ds)
  | _ => none
def intD : List D → Option D
  | [.int i] => some (.int i)
  | [.bl b] => some (.int (if b then 1 else 0))
  | _ => none
theorem cd_tuple : CallD S (fun xs H Q => ∃ p ys, xs = [.ref p] ∧ ((SqL S.T.K H p ys ∧ ∀ l, H l = none → Q (.ref l) (upd H l (.tup ys))) ∨ (SqT S.T.K H p ys ∧ Q (.ref p) H))) tupleD := by
  intro σ H F env ad xs ds d Q sr r e k
  unfold tupleD at e
  split at e
  · cases e
    cases r with
    | cons h t =>
      cases t
      cases h with
      | lst h1 r1 =>
        refine ⟨_, _, rfl, .inl ⟨.of (sr.sub _ _ h1), fun b hb => ?_⟩⟩
        obtain ⟨F', le, sr', r'⟩ := sr.newTup r1 hb
        exact k _ _ F' ad le sr' r'
  · cases e
    cases r with
    | cons h t =>
      cases t
      cases h with
      | tup h1 r1 => exact ⟨_, _, rfl, .inr ⟨sr.sub.t h1, k _ H F ad (Le.refl F) sr (.tup h1 r1)⟩⟩
  · cases e
theorem cd_int : CallD S (fun xs H Q => (∃ i, xs = [.int i] ∧ Q (.int i) H) ∨ ∃ k, xs = [.bl k] ∧ Q (.int (if k then 1 else 0)) H) intD := by
  intro σ H F env ad xs ds d Q sr r e k
  unfold intD at e
  split at e
  · cases e
    cases r with
    | cons h t =>
      cases t; cases h
      exact .inl ⟨_, rfl, k _ H F ad (Le.refl F) sr (.int _)⟩
  · cases e
    cases r with
    | cons h t =>
      cases t; cases h
      exact .inr ⟨_, rfl, k _ H F ad (Le.refl F) sr (.int _)⟩
  · cases e
end
end DL
set_option Elab.async false
set_option linter.all false
set_option maxRecDepth 100000
set_option maxHeartbeats 2000000
namespace DL
open PySem PySem.Spec PyProof.Rows L2
inductive Fl where
  | nx (e : Env) | rt (d : D) (e : Env) | bk (e : Env) | ct (e : Env) | exc (c : Str) (e : Env) | bad
def PostS (S : Gd) (W : WX) (F : Hp) (d : Ends) (r : Fl) : Prop := match r with
  | .nx e => ∀ σ' H' F' ad', Le F F' → SR S σ' H' F' e ad' → d.nx σ' H'
  | .rt x e => ∀ σ' H' F' ad' v, Le F F' → SR S σ' H' F' e ad' → Rp S.T F' v x → d.rt v H'
  | .bk e => ∀ σ' H' F' ad', Le F F' → SR S σ' H' F' e ad' → d.bk σ' H'
  | .ct e => ∀ σ' H' F' ad', Le F F' → SR S σ' H' F' e ad' → d.ct σ' H'
  | .exc c e => ∀ C σ' H' F' ad', S.T.exc c = some C → Le F F' → SR S σ' H' F' e ad' → W (.ref C) none σ' H'
  | .bad => False
def tS (S : Gd) (W : WX) (m : Env → Fl) : TS := fun d σ H => ∃ F env ad, SR S σ H F env ad ∧ PostS S W F d (m env)
def Res.fl {α : Type} : Res α → (α → Env → Fl) → Fl
  | .ok a e, f => f a e
  | .exc c e, _ => .exc c e
  | .bad, _ => .bad
section
variable {S : Gd} {W : WX} {F F' : Hp} {d d' : Ends} {r : Fl} {σ : L2.St}
theorem PostS.le (h : PostS S W F d r) (le : Le F F') : PostS S W F' d r := by
  cases r with
  | nx e => exact fun σ' H' F2 ad' l sr => h σ' H' F2 ad' (le.trans l) sr
  | rt x e => exact fun σ' H' F2 ad' v l sr => h σ' H' F2 ad' v (le.trans l) sr
  | bk e => exact fun σ' H' F2 ad' l sr => h σ' H' F2 ad' (le.trans l) sr
  | ct e => exact fun σ' H' F2 ad' l sr => h σ' H' F2 ad' (le.trans l) sr
  | exc c e => exact fun C σ' H' F2 ad' hc l sr => h C σ' H' F2 ad' hc (le.trans l) sr
  | bad => exact h
theorem Post.fl {α : Type} {q : Res α} {f : α → Env → Fl} (h : PostS S W F d (q.fl f)) : Post S W σ F q fun a e H' F' ad' => PostS S W F' d (f a e) := by
  cases q with
  | ok a e => exact fun H' F' ad' le sr => PostS.le h le
  | exc c e => exact fun C H' F' ad' hc le sr => h C σ H' F' ad' hc le sr
  | bad => exact h
end
section
variable {X : Cx} {S : Gd} {W : WX} {e a b : Expr} {st : Stmt} {rest : List Stmt} {pos : Pos} {m : M D} {s t u : Env → Fl} {tb : M Bool}
def sNil : Env → Fl := fun env => .nx env
def sSeq (s t : Env → Fl) : Env → Fl := fun env => match s env with
  | .nx e => t e
  | r => r
theorem ds_nil : PSs X [] (tS S W sNil) := PSs.imp pss_nil fun d σ H ⟨F, env, ad, sr, p⟩ => p σ H F ad (Le.refl F) sr
theorem ds_cons (h : PS X st (tS S W s)) (hr : PSs X rest (tS S W t)) : PSs X (st :: rest) (tS S W (sSeq s t)) :=
  PSs.imp (pss_cons h hr) fun d σ H ⟨F, env, ad, sr, p⟩ => by
    refine ⟨F, env, ad, sr, ?_⟩
    unfold sSeq at p
    cases q : s env with
    | nx e =>
      rw [q] at p
      exact fun σ' H' F' ad' le sr' => ⟨F', e, ad', sr', PostS.le p le⟩
    | rt x e => rw [q] at p; exact p
    | bk e => rw [q] at p; exact p
    | ct e => rw [q] at p; exact p
    | exc c e => rw [q] at p; exact p
    | bad => rw [q] at p; exact p
theorem ds_one (h : PS X st (tS S W s)) : PSs X [st] (tS S W s) := pss_one h
def sBad : Env → Fl := fun _ => .bad
theorem ds_never {sts : List Stmt} : PSs X sts (tS S W sBad) := PSs.imp pss_never fun d σ H ⟨F, env, ad, sr, p⟩ => p
def sBrk : Env → Fl := fun env => .bk env
def sRet (m : M D) : Env → Fl := fun env => (m env).fl fun d e => .rt d e
theorem ds_ret (h : PE X e (tD S W m)) : PS X (.Return (some e) pos) (tS S W (sRet m)) :=
  PS.imp (ps_ret h) fun d σ H ⟨F, env, ad, sr, p⟩ => ⟨F, env, ad, sr, (Post.fl p).imp fun x e1 H1 F1 ad1 le1 sr1 q v r => q σ H1 F1 ad1 v (Le.refl F1) sr1 r⟩
def sExp (m : M D) : Env → Fl := fun env => (m env).fl fun _ e => .nx e
theorem ds_exp (h : PE X e (tD S W m)) (hs : swapsWith e none pos.line X.env = pure false := by rfl) : PS X (.Expr e pos) (tS S W (sExp m)) :=
  PS.imp (ps_expr h hs) fun d σ H ⟨F, env, ad, sr, p⟩ => ⟨F, env, ad, sr, (Post.fl p).imp fun x e1 H1 F1 ad1 le1 sr1 q v r => q σ H1 F1 ad1 (Le.refl F1) sr1⟩
def sIf (t : M Bool) (a b : Env → Fl) : Env → Fl := fun env => (t env).fl fun k e => if k = true then a e else b e
theorem ds_if {c : Expr} {as bs : List Stmt} (hc : PT X c (tT S W tb)) (ha : PSs X as (tS S W s)) (hb : PSs X bs (tS S W t)) : PS X (.If c as bs pos) (tS S W (sIf tb s t)) :=
  PS.imp (ps_if hc ha hb) fun d σ H ⟨F, env, ad, sr, p⟩ => ⟨F, env, ad, sr, (Post.fl p).imp fun k e1 H1 F1 ad1 le1 sr1 q => by
    cases k with
    | true =>
      rw [if_pos rfl] at q ⊢
      exact ⟨F1, e1, ad1, sr1, q⟩
    | false =>
      rw [if_neg Bool.false_ne_true] at q ⊢
      exact ⟨F1, e1, ad1, sr1, q⟩⟩
abbrev Tg := D → Env → Option Env
abbrev Tgs := List D → Env → Option Env
def But (js : List Nat) (σ σ' : L2.St) : Prop := σ'.length = σ.length ∧ ∀ j, j ∉ js → σ'[j]? = σ[j]?
theorem But.refl (σ : L2.St) (js : List Nat) : But js σ σ := ⟨rfl, fun _ _ => rfl⟩
theorem But.trans {js ks : List Nat} {σ σ1 σ2 : L2.St} (a : But js σ σ1) (b : But ks σ1 σ2) : But (js ++ ks) σ σ2 := ⟨b.1.trans a.1, fun j hj => by
  rw [b.2 j fun z => hj (List.mem_append_right _ z), a.2 j fun z => hj (List.mem_append_left _ z)]⟩
theorem But.set {i : Nat} {σ : L2.St} {x : Option V} : But [i] σ (σ.set i x) := ⟨List.length_set .., fun j hj => get_set_ne fun z => hj (by rw [z]; exact List.mem_cons_self ..)⟩
def tG (S : Gd) (js : List Nat) (f : Tg) : TG := fun v σ H Q => ∃ F env ad d e', SR S σ H F env ad ∧ Rp S.T F v d ∧ f d env = some e' ∧ ∀ σ' ad', SR S σ' H F e' ad' → But js σ σ' → Q σ' H
def tGs (S : Gd) (js : List Nat) (f : Tgs) : TGs := fun vs σ H Q => ∃ F env ad ds e', SR S σ H F env ad ∧ RpAll S.T F vs ds ∧ f ds env = some e' ∧ ∀ σ' ad', SR S σ' H F e' ad' → But js σ σ' → Q σ' H
theorem PG.imp {e : Expr} {t t' : TG} (h : PG X e t) (i : ∀ v σ H Q, t' v σ H Q → t v σ H Q) : PG X e t' := ⟨fun pins s σ H v u Q I r q => h.run pins s σ H v u Q I r (i v σ H Q q)⟩
theorem PGs.imp {e : List Expr} {t t' : TGs} (h : PGs X e t) (i : ∀ v σ H Q, t' v σ H Q → t v σ H Q) : PGs X e t' := ⟨fun pins s σ H v u Q I r q => h.run pins s σ H v u Q I r (i v σ H Q q)⟩
def gNm (i : Nat) : Tg := fun d env => some (env.set i (.dat d))
theorem dg_name {i : Nat} {x : Str} (hN : X.N.Nodup) (hi : X.N[i]? = some x) (hx : Loc X.env.scope x) (hf : X.fn x = true ∨ X.env.scope.names.lookup x = some .local := by first | exact .inl rfl | exact .inr rfl | assumption) : PG X (.Name x pos) (tG S [i] (gNm i)) :=
  PG.imp (pg_name hN hi hx hf) fun v σ H Q ⟨F, env, ad, d, e', sr, r, e1, k⟩ => by
    cases e1
    exact k _ _ (sr.store i r) .set
def gNo : Tgs := fun ds env => match ds with
  | [] => some env
  | _ => none
def gCo (f : Tg) (g : Tgs) : Tgs := fun ds env => match ds with
  | d :: r => (f d env).bind fun e => g r e
  | [] => none
theorem dgs_nil : PGs X [] (tGs S [] gNo) := PGs.imp pgs_nil fun vs σ H Q ⟨F, env, ad, ds, e', sr, r, e1, k⟩ => by
  cases ds with
  | nil =>
    cases e1
    cases r
    exact ⟨rfl, k _ _ sr (But.refl _ _)⟩
  | cons d r => cases e1
theorem dgs_cons {f : Tg} {g : Tgs} {es : List Expr} {js ks : List Nat} (h1 : PG X e (tG S js f)) (h2 : PGs X es (tGs S ks g)) (hs : (assignEach (e :: es) X.env).map (·.2) = assign e X.env :: (assignEach es X.env).map (·.2) := by rfl) : PGs X (e :: es) (tGs S (js ++ ks) (gCo f g)) :=
  PGs.imp (pgs_cons h1 h2 hs) fun vs σ H Q ⟨F, env, ad, ds, e', sr, r, e1, k⟩ => by
    cases r with
    | nil => cases e1
    | cons r rr =>
      obtain ⟨e2, e3, e4⟩ := Option.bind_eq_some_iff.mp e1
      exact ⟨_, _, rfl, F, env, ad, _, e2, sr, r, e3, fun σ' ad' sr' b1 => ⟨F, e2, ad', _, e', sr', rr, e4, fun σ2 ad2 sr2 b2 => k σ2 ad2 sr2 (b1.trans b2)⟩⟩
def gTu (n : Nat) (g : Tgs) : Tg := fun d env => match d with
  | .tup ds => if ds.length = n then g ds env else none
  | _ => none
theorem dg_tup {es : List Expr} {k n : Nat} {g : Tgs} {js : List Nat} (hc : X.calm = true) (h : PGs X es (tGs S js g)) (hK : X.K = S.T.K := by rfl) (hn : (assignEach es X.env).length = n := by rfl) (hst : (assignEach es X.env).findIdx? (·.1) = none := by rfl) : PG X (.Tuple es k pos) (tG S js (gTu n g)) :=
  PG.imp (pg_tup hc h hn hst) fun v σ H Q ⟨F, env, ad, d, e', sr, r, e1, k⟩ => by
    rw [hK]
    cases r with
    | tup h1 r1 =>
      have e2 : (if _ = n then g _ env else none) = some e' := e1
      split at e2
      · rename_i hl
        exact ⟨_, _, rfl, sr.sub.t h1, by rw [r1.length]; exact hl, F, env, ad, _, e', sr, r1, e2, k⟩
      · cases e2
    | non => cases e1
    | bl _ => cases e1
    | int _ => cases e1
    | str _ => cases e1
    | lst _ _ => cases e1
    | ins _ _ _ _ => cases e1
    | scr _ => cases e1
    | exc _ _ => cases e1
    | dct _ _ _ _ => cases e1
    | wd _ => cases e1
    | raw _ => cases e1
def sAsg (m : M D) (f : Tg) : Env → Fl := fun env => (m env).fl fun d e => match f d e with
  | some e' => .nx e'
  | none => .bad
theorem ds_asg {tg : Expr} {f : Tg} {js : List Nat} (he : PE X e (tD S W m)) (hg : PG X tg (tG S js f)) (hs : swapsWithSole [tg] e pos.line X.env = pure false := by rfl) (hw : swappedStores [tg] e X.env = pure none := by rfl) (h1 : (assignEach [tg] X.env).map (·.2) = [assign tg X.env] := by rfl) : PS X (.Assign [tg] e pos) (tS S W (sAsg m f)) :=
  PS.imp (ps_asg he hg hs hw h1) fun d σ H ⟨F, env, ad, sr, p⟩ => ⟨F, env, ad, sr, (Post.fl p).imp fun x e1 H1 F1 ad1 le1 sr1 q v r => by
    cases q2 : f x e1 with
    | none => rw [q2] at q; exact q.elim
    | some e2 =>
      rw [q2] at q
      exact ⟨F1, e1, ad1, x, e2, sr1, r, q2, fun σ' ad' sr' _ => q σ' H1 F1 ad' (Le.refl F1) sr'⟩⟩
theorem ds_set {i : Nat} {x : Str} {pos' : Pos} (hN : X.N.Nodup) (hi : X.N[i]? = some x) (hx : Loc X.env.scope x) (he : PE X e (tD S W m)) (hs : swapsWith e (some (.Name x pos')) pos.line X.env = pure false := by rfl)
    (hf : X.fn x = true ∨ X.env.scope.names.lookup x = some .local := by first | exact .inl rfl | exact .inr rfl | assumption) : PS X (.Assign [.Name x pos'] e pos) (tS S W (sAsg m (gNm i))) :=
  PS.imp (ps_set hN hi hx he hs hf) fun d σ H ⟨F, env, ad, sr, p⟩ => ⟨F, env, ad, sr, (Post.fl p).imp fun x e1 H1 F1 ad1 le1 sr1 q v r => q _ H1 F1 _ (Le.refl F1) (sr1.store i r)⟩
end
def ItD (T : Tb) (F : Hp) (J : It) (ds : List D) : Prop := ∀ H, Le F H → ∀ i : Nat, (∀ d, ds[i]? = some d → J.go i H ∧ ∀ x H', J.yld i H x H' → (H' = H ∧ Rp T F x d) ∨ ∃ p vs es, H p = none ∧ H' = upd H p (.tup vs) ∧ x = .ref p ∧ d = .tup es ∧ RpAll T F vs es) ∧ (i = ds.length → J.stop i H)
def tI (S : Gd) (W : WX) (m : M (List D)) : TI := fun σ H R => ∃ F env ad, SR S σ H F env ad ∧ Post S W σ F (m env) fun ds _ H' F' _ => ∀ J : It, ItD S.T F' J ds → R J H'
theorem ItD.le {T : Tb} {F F' : Hp} {J : It} {ds : List D} (h : ItD T F J ds) (le : Le F F') : ItD T F' J ds := fun H l i => by
  obtain ⟨h1, h2⟩ := h H (le.trans l) i
  refine ⟨fun d e => ⟨(h1 d e).1, fun x H' y => ?_⟩, h2⟩
  rcases (h1 d e).2 x H' y with ⟨z1, z2⟩ | ⟨p, vs, es, z1, z2, z3, z4, z5⟩
  · exact .inl ⟨z1, z2.mono le⟩
  · exact .inr ⟨p, vs, es, z1, z2, z3, z4, z5.mono le⟩
theorem ItD.turn {S : Gd} {F F1 : Hp} {J : It} {ds : List D} {i : Nat} {d : D} {σ : L2.St} {H : Hp} {env : Env} {ad : Nat → List Addr} (h : ItD S.T F1 J ds) (hd : ds[i]? = some d) (sr : SR S σ H F env ad) (le : Le F1 F) :
    J.go i H ∧ ∀ x H', J.yld i H x H' → ∃ F', Le F F' ∧ SR S σ H' F' env ad ∧ Rp S.T F' x d ∧ ∀ b u, H b = some u → F b = none → H' b = some u ∧ F' b = none := by
  obtain ⟨g, y⟩ := (h H (le.trans sr.sub) i).1 d hd
  refine ⟨g, fun x H' hy => ?_⟩
  rcases y x H' hy with ⟨z1, z2⟩ | ⟨p, vs, es, z1, z2, z3, z4, z5⟩
  · subst z1
    exact ⟨F, Le.refl F, sr, z2.mono le, fun b u e1 e2 => ⟨e1, e2⟩⟩
  · subst z2 z3 z4
    obtain ⟨sr2, le2⟩ := sr.alloc (o := .tup vs) z1 notb_tup
    exact ⟨_, le2, sr2, .tup (.of upd_same) ((z5.mono le).mono le2), fun b u e1 e2 => by
      have hn : b ≠ p := ne_of_none e1 z1
      rw [upd_ne hn, upd_ne hn]
      exact ⟨e1, e2⟩⟩
section
variable {X : Cx} {S : Gd} {W : WX} {e a b iter tg : Expr} {body : List Stmt} {pos p : Pos} {m : M D} {s t u : Env → Fl} {mi : M (List D)} {f : Tg} {js : List Nat}
def forD (f : Tg) (body : Env → Fl) : List D → Env → Fl
  | [], env => .nx env
  | d :: r, env => match f d env with
    | none => .bad
    | some e1 => match body e1 with
      | .nx e2 => forD f body r e2
      | .ct e2 => forD f body r e2
      | .bk e2 => .nx e2
      | .rt x e2 => .rt x e2
      | .exc c e2 => .exc c e2
      | .bad => .bad
def sFor (mi : M (List D)) (f : Tg) (body : Env → Fl) : Env → Fl := fun env => (mi env).fl fun ds e => forD f body ds e
theorem ds_for (hp : PassesOwn (model X.prog X.w) X.A X.env X.xe) (hc : X.calm = true) (hi : PI X tg iter (tI S W mi)) (hg : PG X tg (tG S js f)) (hb : PSs X body (tS S W s)) (hs : ∀ x, foldedSetIterable iter X.env x = pure x := by intro _; rfl) : PS X (.For tg iter body [] pos) (tS S W (sFor mi f s)) :=
  PS.imp (ps_for hp hc hi hg hb hs) fun d σ H ⟨F, env, ad, sr, p⟩ => ⟨F, env, ad, sr, (Post.fl p).imp fun ds e1 H1 F1 ad1 le1 sr1 q J hJ => by
    refine ⟨fun i m σ H => m = ds.length - i ∧ i ≤ ds.length ∧ ∃ F2 e2 ad2, Le F1 F2 ∧ SR S σ H F2 e2 ad2 ∧ PostS S W F2 d (forD f s (ds.drop i) e2), ⟨ds.length, by simp, Nat.zero_le _, F1, e1, ad1, Le.refl F1, sr1, q⟩, ?_⟩
    rintro i m σ H ⟨rfl, hi, F2, e2, ad2, le2, sr2, q2⟩
    by_cases hlt : i < ds.length
    · have hd : ds[i]? = some ds[i] := List.getElem?_eq_getElem hlt
      rw [List.drop_eq_getElem_cons hlt] at q2
      obtain ⟨g, y⟩ := hJ.turn hd sr2 le2
      unfold forD at q2
      cases q3 : f ds[i] e2 with
      | none => rw [q3] at q2; exact q2.elim
      | some e3 =>
        rw [q3] at q2
        simp only at q2
        refine .inr ⟨g, fun σ' H' => ∃ F4 e4 ad4, Le F1 F4 ∧ SR S σ' H' F4 e4 ad4 ∧ PostS S W F4 d (forD f s (ds.drop (i + 1)) e4), fun σ' H' z => ⟨ds.length - (i + 1), by omega, rfl, by omega, z⟩, fun x H' hy => ?_⟩
        obtain ⟨F3, le3, sr3, r3, _⟩ := y x H' hy
        refine ⟨F3, e2, ad2, ds[i], e3, sr3, r3, q3, fun σ' ad' sr' _ => ⟨F3, e3, ad', sr', ?_⟩⟩
        cases q4 : s e3 with
        | nx e4 =>
          rw [q4] at q2
          exact fun σ5 H5 F5 ad5 le5 sr5 => ⟨F5, e4, ad5, (le2.trans le3).trans le5, sr5, PostS.le q2 (le3.trans le5)⟩
        | ct e4 =>
          rw [q4] at q2
          exact fun σ5 H5 F5 ad5 le5 sr5 => ⟨F5, e4, ad5, (le2.trans le3).trans le5, sr5, PostS.le q2 (le3.trans le5)⟩
        | bk e4 =>
          rw [q4] at q2
          exact fun σ5 H5 F5 ad5 le5 sr5 => q2 σ5 H5 F5 ad5 (le3.trans le5) sr5
        | rt x e4 =>
          rw [q4] at q2
          exact fun σ5 H5 F5 ad5 v le5 sr5 => q2 σ5 H5 F5 ad5 v (le3.trans le5) sr5
        | exc c e4 =>
          rw [q4] at q2
          exact fun C σ5 H5 F5 ad5 hc le5 sr5 => q2 C σ5 H5 F5 ad5 hc (le3.trans le5) sr5
        | bad => rw [q4] at q2; exact q2.elim
    · have e0 : i = ds.length := by omega
      subst e0
      rw [List.drop_length] at q2
      exact .inl ⟨(hJ H (le2.trans sr2.sub) ds.length).2 rfl, q2 σ H F2 ad2 (Le.refl F2) sr2⟩⟩
theorem PI.imp {wi wi' : TI} (h : PI X tg iter wi) (i : ∀ σ H R, wi' σ H R → wi σ H R) : PI X tg iter wi' := ⟨fun pins s σ H R I q => h.run pins s σ H R I (i σ H R q)⟩
def iLst (m : M D) : M (List D) := fun env => (m env).bind fun d e => match d with
  | .lst ds => .ok ds e
  | _ => .bad
def iTpl (m : M D) : M (List D) := fun env => (m env).bind fun d e => match d with
  | .tup ds => .ok ds e
  | _ => .bad
theorem it_list {T : Tb} {F : Hp} {a : Addr} {vs : List V} {ds : List D} (h : F a = some (.lst vs)) (r : RpAll T F vs ds) : ItD T F (Itl T.K a) ds := fun H le i => by
  have hq : SqL T.K H a vs := .of (le _ _ h)
  refine ⟨fun d e => ?_, fun hl => ⟨vs, hq, by rw [r.length]; exact Nat.le_of_eq hl.symm⟩⟩
  obtain ⟨v, e1, e2⟩ := r.get e
  refine ⟨⟨vs, v, hq, e1⟩, fun x H' hy => .inl ⟨hy.1, ?_⟩⟩
  have e3 := hy.2 vs hq
  rw [e1] at e3
  cases e3
  exact e2
theorem it_tup {T : Tb} {F : Hp} {a : Addr} {vs : List V} {ds : List D} (h : SqT T.K F a vs) (r : RpAll T F vs ds) : ItD T F (Itt T.K a) ds := fun H le i => by
  have hq : SqT T.K H a vs := le.t h
  refine ⟨fun d e => ?_, fun hl => ⟨vs, hq, by rw [r.length]; exact Nat.le_of_eq hl.symm⟩⟩
  obtain ⟨v, e1, e2⟩ := r.get e
  refine ⟨⟨vs, v, hq, e1⟩, fun x H' hy => .inl ⟨hy.1, ?_⟩⟩
  have e3 := hy.2 vs hq
  rw [e1] at e3
  cases e3
  exact e2
theorem di_list (h : PE X e (tD S W m)) (hK : X.K = S.T.K := by rfl) : PI X tg e (tI S W (iLst m)) :=
  PI.imp (pi_list h) fun σ H R ⟨F, env, ad, sr, p⟩ => ⟨F, env, ad, sr, p.bind.imp fun d e1 H1 F1 ad1 le1 sr1 q v r => by
    rw [hK]
    have q2 := q.2
    cases r with
    | lst h1 r1 => exact ⟨_, rfl, ⟨_, .of (sr1.sub _ _ h1)⟩, q2 H1 F1 ad1 (Le.refl F1) sr1 _ (it_list h1 r1)⟩
    | non => exact q2.elim
    | bl _ => exact q2.elim
    | int _ => exact q2.elim
    | str _ => exact q2.elim
    | tup _ _ => exact q2.elim
    | ins _ _ _ _ => exact q2.elim
    | scr _ => exact q2.elim
    | exc _ _ => exact q2.elim
    | dct _ _ _ _ => exact q2.elim
    | wd _ => exact q2.elim
    | raw _ => exact q2.elim⟩
theorem di_tup (h : PE X e (tD S W m)) (hK : X.K = S.T.K := by rfl) : PI X tg e (tI S W (iTpl m)) :=
  PI.imp (pi_tup h) fun σ H R ⟨F, env, ad, sr, p⟩ => ⟨F, env, ad, sr, p.bind.imp fun d e1 H1 F1 ad1 le1 sr1 q v r => by
    rw [hK]
    have q2 := q.2
    cases r with
    | tup h1 r1 => exact ⟨_, rfl, ⟨_, sr1.sub.t h1⟩, q2 H1 F1 ad1 (Le.refl F1) sr1 _ (it_tup h1 r1)⟩
    | non => exact q2.elim
    | bl _ => exact q2.elim
    | int _ => exact q2.elim
    | str _ => exact q2.elim
    | lst _ _ => exact q2.elim
    | ins _ _ _ _ => exact q2.elim
    | scr _ => exact q2.elim
    | exc _ _ => exact q2.elim
    | dct _ _ _ _ => exact q2.elim
    | wd _ => exact q2.elim
    | raw _ => exact q2.elim⟩
def rangeD (lo : Int) : Nat → List D
  | 0 => []
  | n + 1 => .int lo :: rangeD (lo + 1) n
theorem rangeD_length : ∀ (n : Nat) (lo : Int), (rangeD lo n).length = n
  | 0, _ => rfl
  | n + 1, lo => by
    show (rangeD (lo + 1) n).length + 1 = n + 1
    rw [rangeD_length n]
theorem rangeD_get : ∀ (n : Nat) (lo : Int) (i : Nat) (d : D), (rangeD lo n)[i]? = some d → i < n ∧ d = .int (lo + i)
  | 0, _, _, _, e => by simp [rangeD] at e
  | n + 1, lo, 0, d, e => by
    have e2 : some (D.int lo) = some d := e
    cases e2
    exact ⟨Nat.succ_pos _, by simp⟩
  | n + 1, lo, i + 1, d, e => by
    have e2 : (rangeD (lo + 1) n)[i]? = some d := e
    obtain ⟨h1, h2⟩ := rangeD_get n (lo + 1) i d e2
    refine ⟨by omega, ?_⟩
    rw [h2]
    congr 1
    omega
theorem it_range {T : Tb} {F : Hp} (lo : Int) (n : Nat) : ItD T F (Itr lo n) (rangeD lo n) := fun H le i => by
  refine ⟨fun d e => ?_, fun hl => ?_⟩
  · obtain ⟨h1, h2⟩ := rangeD_get n lo i d e
    refine ⟨h1, fun x H' hy => .inl ⟨hy.1, ?_⟩⟩
    rw [h2, hy.2]
    exact .int _
  · rw [rangeD_length] at hl
    exact Nat.le_of_eq hl.symm
def inR (j : Int) : Bool := decide (-(2 ^ 62) ≤ j) && decide (j < 2 ^ 62)
theorem inR_ok {j : Int} (h : inR j = true) : -(2 ^ 62) ≤ j ∧ j < 2 ^ 62 := by
  unfold inR at h
  rw [Bool.and_eq_true] at h
  exact ⟨of_decide_eq_true h.1, of_decide_eq_true h.2⟩
def iRg1 (l : M (List D)) : M (List D) := fun env => (l env).bind fun ds e => match ds with
  | [.int j] => if inR j = true then .ok (rangeD 0 j.toNat) e else .bad
  | _ => .bad
theorem di_range1 {l : M (List D)} (hg : Gl X "range") (hm : X.mg "range" = none) (ha : PA X [a] (tL S W l)) (hs : starEach [a] X.env = [(false, eval a X.env)] := by rfl) : PI X tg (.Call (.Name "range" p) [a] [] pos) (tI S W (iRg1 l)) :=
  PI.imp (pi_range1 hg hm ha hs) fun σ H R ⟨F, env, ad, sr, p⟩ => ⟨F, env, ad, sr, p.bind.imp fun ds e1 H1 F1 ad1 le1 sr1 q vs rs => by
    have q2 := q.2
    split at q2
    · split at q2
      · rename_i j hj
        cases rs with
        | cons h t =>
          cases t; cases h
          exact ⟨j, rfl, (inR_ok hj).1, (inR_ok hj).2, q2 H1 F1 ad1 (Le.refl F1) sr1 _ (it_range 0 _)⟩
      · exact q2.elim
    · exact q2.elim⟩
end
end DL
set_option Elab.async false
set_option linter.all false
set_option maxRecDepth 100000
set_option maxHeartbeats 2000000
namespace DL
open PySem PySem.Spec PyProof.Rows L2
inductive FRes where
  | rt (d : D) (as : List Slot) | exc (c : Str) (as : List Slot) | bad
abbrev Fn := List Slot → FRes
def handed : Slot → Bool
  | .dat _ | .lent _ => true
  | _ => false
abbrev gd (T : Tb) (H F : Hp) (OA : List Addr) (vs : List V) : Gd := ⟨T, H, F, OA, vs.map some⟩
def spF (T : Tb) (n : Nat) (φ : Fn) : Sp := fun vs H Q E => ∃ F args ad OA, vs.length = n ∧ SR (gd T H F OA vs) (vs.map some) H F args ad ∧ args.all handed = true ∧ match φ args with
  | .rt d as => ∀ v H' F' ad', Le F F' → SR (gd T H F OA vs) (vs.map some) H' F' as ad' → Rp T F' v d → Q v H'
  | .exc c as => ∀ C H' F' ad', T.exc c = some C → Le F F' → SR (gd T H F OA vs) (vs.map some) H' F' as ad' → E (.ref C) none H'
  | .bad => False
theorem spF.len {T : Tb} {n : Nat} {φ : Fn} {vs : List V} {H : Hp} {Q : VK} {E : XK} (h : spF T n φ vs H Q E) : vs.length = n := by
  obtain ⟨F, args, ad, OA, h1, _⟩ := h
  exact h1
def backA : List Slot → Env → Option (List Slot)
  | [], _ => some []
  | .lent _ :: r, .lent o :: e => (backA r e).map (.lent o :: ·)
  | .lent _ :: _, _ => none
  | s :: r, _ :: e => (backA r e).map (s :: ·)
  | _ :: _, [] => none
def fnD (n : Nat) (body : Env → Fl) : Fn := fun args => match body (args ++ List.replicate (n - args.length) .emp) with
  | .rt d e => (match backA args e with
    | some as => .rt d as
    | none => .bad)
  | .nx e => (match backA args e with
    | some as => .rt .non as
    | none => .bad)
  | .exc c e => (match backA args e with
    | some as => .exc c as
    | none => .bad)
  | _ => .bad
theorem backA_get : ∀ {args : List Slot} {e : Env} {as : List Slot}, backA args e = some as → as.length = args.length ∧ args.length ≤ e.length ∧ ∀ (j : Nat) (s : Slot), as[j]? = some s → (∃ o o', args[j]? = some (.lent o) ∧ s = .lent o' ∧ e[j]? = some (.lent o')) ∨ (args[j]? = some s ∧ isLent s = false)
  | [], e, as, h => by
    cases h
    exact ⟨rfl, Nat.zero_le _, fun j s q => by simp at q⟩
  | .lent o0 :: r, [], as, h => by cases h
  | .lent o0 :: r, .lent o :: e, as, h => by
    obtain ⟨as', h1, h2⟩ := Option.map_eq_some_iff.mp h
    subst h2
    obtain ⟨i1, i2, i3⟩ := backA_get h1
    refine ⟨by simp [i1], by simp; omega, fun j s q => ?_⟩
    cases j with
    | zero =>
      simp at q
      subst q
      exact .inl ⟨o0, o, rfl, rfl, rfl⟩
    | succ j =>
      simp at q
      rcases i3 j s q with ⟨x, y, z1, z2, z3⟩ | ⟨z1, z2⟩
      · exact .inl ⟨x, y, by simpa using z1, z2, by simpa using z3⟩
      · exact .inr ⟨by simpa using z1, z2⟩
  | .lent o0 :: r, .emp :: e, as, h => by cases h
  | .lent o0 :: r, .dat _ :: e, as, h => by cases h
  | .lent o0 :: r, .own _ :: e, as, h => by cases h
  | .emp :: r, [], as, h => by cases h
  | .dat _ :: r, [], as, h => by cases h
  | .own _ :: r, [], as, h => by cases h
  | .emp :: r, x :: e, as, h => by
    obtain ⟨as', h1, h2⟩ := Option.map_eq_some_iff.mp h
    subst h2
    obtain ⟨i1, i2, i3⟩ := backA_get h1
    refine ⟨by simp [i1], by simp; omega, fun j s q => ?_⟩
    cases j with
    | zero => simp at q; subst q; exact .inr ⟨rfl, rfl⟩
    | succ j =>
      simp at q
      rcases i3 j s q with ⟨x, y, z1, z2, z3⟩ | ⟨z1, z2⟩
      · exact .inl ⟨x, y, by simpa using z1, z2, by simpa using z3⟩
      · exact .inr ⟨by simpa using z1, z2⟩
  | .dat d :: r, x :: e, as, h => by
    obtain ⟨as', h1, h2⟩ := Option.map_eq_some_iff.mp h
    subst h2
    obtain ⟨i1, i2, i3⟩ := backA_get h1
    refine ⟨by simp [i1], by simp; omega, fun j s q => ?_⟩
    cases j with
    | zero => simp at q; subst q; exact .inr ⟨rfl, rfl⟩
    | succ j =>
      simp at q
      rcases i3 j s q with ⟨x, y, z1, z2, z3⟩ | ⟨z1, z2⟩
      · exact .inl ⟨x, y, by simpa using z1, z2, by simpa using z3⟩
      · exact .inr ⟨by simpa using z1, z2⟩
  | .own o :: r, x :: e, as, h => by
    obtain ⟨as', h1, h2⟩ := Option.map_eq_some_iff.mp h
    subst h2
    obtain ⟨i1, i2, i3⟩ := backA_get h1
    refine ⟨by simp [i1], by simp; omega, fun j s q => ?_⟩
    cases j with
    | zero => simp at q; subst q; exact .inr ⟨rfl, rfl⟩
    | succ j =>
      simp at q
      rcases i3 j s q with ⟨x, y, z1, z2, z3⟩ | ⟨z1, z2⟩
      · exact .inl ⟨x, y, by simpa using z1, z2, by simpa using z3⟩
      · exact .inr ⟨by simpa using z1, z2⟩
theorem SR.back {T : Tb} {H0 F0 : Hp} {OA : List Addr} {vs : List V} {args as : List Slot} {σ : L2.St} {H F : Hp} {env : Env} {ad ad0 : Nat → List Addr} (h0 : SR (gd T H0 F0 OA vs) (vs.map some) H0 F0 args ad0) (hh : args.all handed = true) (h : SR ⟨T, H0, F0, OA, vs.map some⟩ σ H F env ad) (e : backA args env = some as) :
    ∃ ad', SR (gd T H0 F0 OA vs) (vs.map some) H F as ad' := by
  obtain ⟨i1, i2, i3⟩ := backA_get e
  refine ⟨fun j => match as[j]? with | some (.lent _) => ad j | _ => [], ?_⟩
  refine ⟨by rw [i1]; exact h0.len, h.sub, fun j s q => ?_, fun j hj => ?_, fun i j a ha hb => ?_, fun i a ha => ?_, h.keep, h.tab, h.notb, h.old, h.le0, h.dom, fun j o q => rfl⟩
  · rcases i3 j s q with ⟨o, o', z1, z2, z3⟩ | ⟨z1, z2⟩
    · subst z2
      rw [q]
      have q2 := h.at_ j _ z3
      rw [show σ[j]? = (vs.map some)[j]? from h.fix j o' z3] at q2
      exact q2
    · have hs : handed s = true := List.all_eq_true.mp hh s (List.mem_of_getElem? z1)
      cases s with
      | dat d =>
        rw [q]
        obtain ⟨_, v, x1, x2⟩ := h0.at_ j _ z1
        exact ⟨rfl, v, x1, x2.mono h.le0⟩
      | emp => cases hs
      | own _ => cases hs
      | lent _ => cases z2
  · rw [List.getElem?_eq_none hj]
  · have ha2 : a ∈ ad i := by
      split at ha
      · exact ha
      · cases ha
    have hb2 : a ∈ ad j := by
      split at hb
      · exact hb
      · cases hb
    exact h.dis i j a ha2 hb2
  · have ha2 : a ∈ ad i := by
      split at ha
      · exact ha
      · cases ha
    exact h.mine i a ha2
theorem SR.begin {S : Gd} {vs : List V} {H F : Hp} {args : List Slot} {ad : Nat → List Addr} (n : Nat) (h : SR S (vs.map some) H F args ad) : SR S (vs.map some ++ List.replicate (n - vs.length) none) H F (args ++ List.replicate (n - args.length) .emp) ad := by
  have hl : vs.length = args.length := by
    have := h.len
    rwa [List.length_map] at this
  have hlm : (vs.map some).length = vs.length := List.length_map ..
  refine ⟨by simp [hl], h.sub, fun i s e => ?_, fun i hi => h.out i (by simp at hi; omega), h.dis, h.mine, h.keep, h.tab, h.notb, h.old, h.le0, h.dom, fun i o e => ?_⟩
  · by_cases hi : i < args.length
    · rw [List.getElem?_append_left hi] at e
      rw [List.getElem?_append_left (by rw [hlm, hl]; exact hi)]
      exact h.at_ i s e
    · rw [List.getElem?_append_right (by omega), List.getElem?_replicate] at e
      split at e
      · cases e
        exact h.out i (by omega)
      · cases e
  · by_cases hi : i < args.length
    · rw [List.getElem?_append_left hi] at e
      rw [List.getElem?_append_left (by rw [hlm, hl]; exact hi)]
      exact h.fix i o e
    · rw [List.getElem?_append_right (by omega), List.getElem?_replicate] at e
      split at e <;> cases e
section
variable {P : Program} {w : World} {T : Tb} {mg : Str → Option Value} {base : Heap} {x qual : Str} {params : Arguments} {body : List Stmt} {scope : Scope} {dvs : List V} {kws : List (Str × V)} {f : Addr} {fd : FuncData}
theorem body_run {N ps : List Str} {k : Nat} {mb : Env → Fl} {X : Cx} {E : XK} {A : Around} (SC : FnScope N ps scope) {vs : List V} {H : Hp} {Q : VK}
    (hb : ∀ (H0 F0 : Hp) (OA : List Addr) (V0 : L2.St), Room k A → PSs X body (tS ⟨T, H0, F0, OA, V0⟩ (fun c d _ H' => E c d H') mb)) (hr : Room k A) (h : spF T ps.length (fnD N.length mb) vs H Q E) :
    ∃ t, PSs X body t ∧ t { nx := fun _ H' => Q .non H', rt := Q } (L2.start N vs) H := by
  obtain ⟨F0, args, ad, OA, hl, sr, hh, q⟩ := h
  refine ⟨_, hb H F0 OA (vs.map some) hr, F0, _, ad, sr.begin N.length, ?_⟩
  have hla : args.length = vs.length := by
    have := sr.len
    rw [List.length_map] at this
    exact this.symm
  unfold fnD at q
  generalize mb (args ++ List.replicate (N.length - args.length) .emp) = r at q
  cases r with
  | nx e =>
    intro σ' H' F' ad' le sr'
    simp only at q
    cases q2 : backA args e with
    | none => rw [q2] at q; exact q.elim
    | some as =>
      rw [q2] at q
      obtain ⟨ad2, sr2⟩ := SR.back sr hh sr' q2
      exact q _ H' F' ad2 le sr2 .non
  | rt d e =>
    intro σ' H' F' ad' v le sr' r'
    simp only at q
    cases q2 : backA args e with
    | none => rw [q2] at q; exact q.elim
    | some as =>
      rw [q2] at q
      obtain ⟨ad2, sr2⟩ := SR.back sr hh sr' q2
      exact q v H' F' ad2 le sr2 r'
  | exc c e =>
    intro C σ' H' F' ad' hc le sr'
    simp only at q
    cases q2 : backA args e with
    | none => rw [q2] at q; exact q.elim
    | some as =>
      rw [q2] at q
      obtain ⟨ad2, sr2⟩ := SR.back sr hh sr' q2
      exact q C H' F' ad2 hc le sr2
  | bk e => exact q.elim
  | ct e => exact q.elim
  | bad => exact q.elim
theorem fn_ok {N ps : List Str} {k : Nat} {mb : Env → Fl} (F : FunD T.K x qual params body scope dvs kws f fd) (SC : FnScope N ps scope)
    (hb : ∀ (cdv : Value) (A : Around) (outer : List PySem.Env) (s : Shared) (H : Hp) (E : XK) (H0 F0 : Hp) (OA : List Addr) (V0 : L2.St), Room k (A.deeper (envOfC qual scope s.heap.objs.size f cdv)) →
      PSs (cxOf (L2N.CX P w) P w T.K mg base N qual scope f cdv A outer s H E) body (tS ⟨T, H0, F0, OA, V0⟩ (fun c d _ H' => E c d H') mb)) : FnOk P w T.K mg base (L2N.CX P w) (k + 1) f fd ps (spF T ps.length (fnD N.length mb)) := by
  exact F.ok SC (fun vs H Q E h => h.len) fun cdv A outer s H vs Q E hr h => body_run SC (hb cdv A outer s H E) hr h
end
section
variable {S : Gd} {σ τ : L2.St} {H F H' F' : Hp} {env : Env} {ad adc : Nat → List Addr} {OA : List Addr} {V0 : L2.St} {ss : Env}
theorem SR.enter {vs : List V} (h : SR S σ H F env ad) (hl : vs.length = ss.length) (hat : ∀ (j : Nat) (s : Slot), ss[j]? = some s → SlotAt S.T F H (vs.map some)[j]? s (adc j)) (hout : ∀ j, ss.length ≤ j → adc j = []) (hdis : ∀ i j a, a ∈ adc i → a ∈ adc j → i = j)
    (hm : ∀ j a, a ∈ adc j → F a = none ∧ a ∈ OA) : SR (gd S.T H F OA vs) (vs.map some) H F ss adc :=
  ⟨by rw [List.length_map]; exact hl, h.sub, hat, hout, hdis, fun i a ha => ⟨(hm i a ha).1, .inr (hm i a ha).2⟩, fun _ _ _ e _ => e, h.tab, h.notb, fun _ _ e => .inl e, Le.refl F, fun _ e => e, fun _ _ _ => rfl⟩
theorem SR.leave (h : SR S σ H F env ad) (c : SR ⟨S.T, H, F, OA, V0⟩ τ H' F' ss adc) (i : Nat) (hOA : ∀ a ∈ OA, (∀ j, j ≠ i → a ∉ ad j) ∧ F a = none ∧ (S.H0 a = none ∨ a ∈ S.OA)) : SR S σ H' F' (env.set i .emp) (setA ad i []) := by
  have le : Le F F' := c.le0
  refine ⟨by rw [List.length_set]; exact h.len, c.sub, fun j s e => ?_, fun j hj => ?_, fun j k a ha hb => ?_, fun j a ha => ?_, fun a o na e nt => ?_, c.tab, c.notb, fun a o e => ?_, h.le0.trans le, fun a e => h.dom a (c.dom a e), fun j o e => ?_⟩
  · by_cases z : j = i
    · subst z
      rw [get_set_same e, setA_same]
      rfl
    · rw [get_set_ne z] at e
      rw [setA_ne z]
      refine (h.at_ j s e).mono le fun a ha => ?_
      obtain ⟨u, e1, e2⟩ := h.kind ha
      rw [e1]
      exact c.keep a u (fun y => (hOA a y).1 j z ha) e1 e2.notb
  · rw [List.length_set] at hj
    by_cases z : j = i
    · rw [z, setA_same]
    · rw [setA_ne z]
      exact h.out j hj
  · by_cases z : j = i
    · rw [z, setA_same] at ha
      cases ha
    · by_cases y : k = i
      · rw [y, setA_same] at hb
        cases hb
      · rw [setA_ne z] at ha
        rw [setA_ne y] at hb
        exact h.dis j k a ha hb
  · by_cases z : j = i
    · rw [z, setA_same] at ha
      cases ha
    · rw [setA_ne z] at ha
      refine ⟨?_, (h.mine j a ha).2⟩
      cases q : F' a with
      | none => rfl
      | some u =>
        rcases c.old a u q with y | y | y
        · have y2 : F a = some u := y
          rw [(h.mine j a ha).1] at y2
          cases y2
        · exact absurd y (h.somes ha)
        · exact absurd ha ((hOA a y).1 j z)
  · have q := h.keep a o na e nt
    refine c.keep a o (fun y => ?_) q nt
    rcases (hOA a y).2.2 with z | z
    · rw [e] at z
      cases z
    · exact na z
  · rcases c.old a o e with y | y | y
    · exact h.old a o y
    · exact .inr (.inl (h.dom a y))
    · exact .inr (hOA a y).2.2
  · by_cases z : j = i
    · subst z
      have y := get_set_same e
      cases y
    · rw [get_set_ne z] at e
      exact h.fix j o e
theorem SR.reput (h : SR S σ H F env ad) (i : Nat) (s : Slot) (fp : List Addr) (hi : i < env.length) (hs : SlotAt S.T F H σ[i]? s fp) (hd : ∀ j a, j ≠ i → a ∈ fp → a ∉ ad j) (hm : ∀ a ∈ fp, F a = none ∧ (S.H0 a = none ∨ a ∈ S.OA)) (hfix : isLent s = true → σ[i]? = S.V0[i]?) :
    SR S σ H F (env.set i s) (setA ad i fp) := by
  refine ⟨by rw [List.length_set, h.len], h.sub, fun j t e => ?_, fun j hj => ?_, fun j k a hj hk => ?_, fun j a hj => ?_, h.keep, h.tab, h.notb, h.old, h.le0, h.dom, fun j o e => ?_⟩
  · by_cases z : j = i
    · subst z
      rw [get_set_same e, setA_same]
      exact hs
    · rw [get_set_ne z] at e
      rw [setA_ne z]
      exact h.at_ j t e
  · rw [List.length_set] at hj
    by_cases z : j = i
    · subst z
      omega
    · rw [setA_ne z]
      exact h.out j hj
  · by_cases z : j = i
    · by_cases y : k = i
      · rw [z, y]
      · rw [z, setA_same] at hj
        rw [setA_ne y] at hk
        exact absurd hk (hd k a y hj)
    · by_cases y : k = i
      · rw [setA_ne z] at hj
        rw [y, setA_same] at hk
        exact absurd hj (hd j a z hk)
      · rw [setA_ne z] at hj
        rw [setA_ne y] at hk
        exact h.dis j k a hj hk
  · by_cases z : j = i
    · rw [z, setA_same] at hj
      exact hm a hj
    · rw [setA_ne z] at hj
      exact h.mine j a hj
  · by_cases z : j = i
    · subst z
      have y := get_set_same e
      exact hfix (by rw [← y]; rfl)
    · rw [get_set_ne z] at e
      exact h.fix j o e
end
abbrev AL := List (Option D)
inductive ArgR (T : Tb) (F : Hp) (σ : L2.St) (i : Nat) : List V → AL → Prop
  | nil : ArgR T F σ i [] []
  | dat {v : V} {d : D} {vs : List V} {as : AL} : Rp T F v d → ArgR T F σ i vs as → ArgR T F σ i (v :: vs) (some d :: as)
  | own {v : V} {vs : List V} {as : AL} : σ[i]? = some (some v) → ArgR T F σ i vs as → ArgR T F σ i (v :: vs) (none :: as)
theorem ArgR.mono {T : Tb} {F F' : Hp} {σ : L2.St} {i : Nat} (le : Le F F') : ∀ {vs : List V} {as : AL}, ArgR T F σ i vs as → ArgR T F' σ i vs as
  | _, _, .nil => .nil
  | _, _, .dat h t => .dat (h.mono le) (ArgR.mono le t)
  | _, _, .own h t => .own h (ArgR.mono le t)
theorem ArgR.length {T : Tb} {F : Hp} {σ : L2.St} {i : Nat} : ∀ {vs : List V} {as : AL}, ArgR T F σ i vs as → vs.length = as.length
  | _, _, .nil => rfl
  | _, _, .dat _ t => by simp [ArgR.length t]
  | _, _, .own _ t => by simp [ArgR.length t]
theorem ArgR.get {T : Tb} {F : Hp} {σ : L2.St} {i : Nat} : ∀ {vs : List V} {as : AL} {j : Nat} {a : Option D}, ArgR T F σ i vs as → as[j]? = some a → ∃ v, vs[j]? = some v ∧ match a with | some d => Rp T F v d | none => σ[i]? = some (some v)
  | _, _, _, _, .nil, e => by simp at e
  | _, _, 0, _, .dat h _, e => by simp at e; subst e; exact ⟨_, rfl, h⟩
  | _, _, 0, _, .own h _, e => by simp at e; subst e; exact ⟨_, rfl, h⟩
  | _, _, j + 1, a, .dat _ t, e => by
    obtain ⟨v, h1, h2⟩ := ArgR.get (j := j) (a := a) t (by simpa using e)
    exact ⟨v, by simpa using h1, h2⟩
  | _, _, j + 1, a, .own _ t, e => by
    obtain ⟨v, h1, h2⟩ := ArgR.get (j := j) (a := a) t (by simpa using e)
    exact ⟨v, by simpa using h1, h2⟩
def tX (S : Gd) (W : WX) (i : Nat) (m : M AL) : TA := fun σ H Q => ∃ F env ad, SR S σ H F env ad ∧ Post S W σ F (m env) fun as _ H' F' _ => ∀ vs, ArgR S.T F' σ i vs as → Q vs H'
def xNil : M AL := fun env => .ok [] env
def xDat (m : M D) (l : M AL) : M AL := fun env => (m env).bind fun d e => (l e).bind fun as e2 => .ok (some d :: as) e2
def xOwn (i : Nat) (l : M AL) : M AL := fun env => match env[i]? with
  | some s => (match s.ow with
    | some _ => (l env).bind fun as e2 => .ok (none :: as) e2
    | none => .bad)
  | none => .bad
section
variable {X : Cx} {S : Gd} {W : WX} {e : Expr} {es : List Expr} {i : Nat} {m : M D} {l : M AL}
theorem dx_nil : PA X [] (tX S W i xNil) := PA.imp pa_nil fun σ H Q ⟨F, env, ad, sr, p⟩ => p H F ad (Le.refl F) sr [] .nil
theorem dx_dat (h : PE X e (tD S W m)) (hr : PA X es (tX S W i l)) (hs : starEach (e :: es) X.env = (false, eval e X.env) :: starEach es X.env := by exact star_ok _ _ _ rfl) : PA X (e :: es) (tX S W i (xDat m l)) :=
  PA.imp (pa_cons h hr hs) fun σ H Q ⟨F, env, ad, sr, p⟩ => ⟨F, env, ad, sr, p.bind.imp fun d e1 H1 F1 ad1 le1 sr1 q v r => ⟨F1, e1, ad1, sr1, q.2.bind.imp fun ds e2 H2 F2 ad2 le2 sr2 q2 vs rs => q2.2 H2 F2 ad2 (Le.refl F2) sr2 _ (.dat (r.mono le2) rs)⟩⟩
theorem dx_own (h : PE X e (tVar i)) (hr : PA X es (tX S W i l)) (hs : starEach (e :: es) X.env = (false, eval e X.env) :: starEach es X.env := by exact star_ok _ _ _ rfl) : PA X (e :: es) (tX S W i (xOwn i l)) :=
  PA.imp (pa_cons h hr hs) fun σ H Q ⟨F, env, ad, sr, p⟩ => by
    unfold xOwn at p
    cases q : env[i]? with
    | none => rw [q] at p; exact p.elim
    | some s =>
      rw [q] at p
      cases q2 : s.ow with
      | none =>
        have p2 : Post S W σ F (match s.ow with | some _ => (l env).bind fun as e2 => .ok (none :: as) e2 | none => .bad) _ := p
        rw [q2] at p2
        exact p2.elim
      | some o =>
        have p2 : Post S W σ F (match s.ow with | some _ => (l env).bind fun as e2 => .ok (none :: as) e2 | none => .bad) _ := p
        rw [q2] at p2
        obtain ⟨b, hb, _⟩ := SlotAt.ow (sr.at_ i _ q) q2
        exact ⟨_, hb, F, env, ad, sr, p2.bind.imp fun ds e2 H2 F2 ad2 le2 sr2 q2 vs rs => q2.2 H2 F2 ad2 (Le.refl F2) sr2 _ (.own hb rs)⟩
end
def slotsX (o : Option Own) : AL → Option (List Slot)
  | [] => some []
  | some d :: r => (slotsX o r).map (.dat d :: ·)
  | none :: r => o.bind fun x => if r.all Option.isSome = true then (slotsX o r).map (.lent x :: ·) else none
def backX (env : Env) (i : Nat) : AL → List Slot → Option Env
  | [], [] => some env
  | some _ :: r, _ :: s => backX env i r s
  | none :: _, .lent o :: _ => (match env[i]? with
    | some s => some (env.set i (s.re o))
    | none => none)
  | _, _ => none
theorem slotsX_get {o : Option Own} : ∀ {as : AL} {ss : List Slot}, slotsX o as = some ss → ss.length = as.length ∧ (∀ (j : Nat) (s : Slot), ss[j]? = some s → (∃ d, as[j]? = some (some d) ∧ s = .dat d) ∨ ∃ x, as[j]? = some none ∧ o = some x ∧ s = .lent x) ∧ ∀ i j : Nat, as[i]? = some none → as[j]? = some none → i = j
  | [], ss, h => by
    cases h
    exact ⟨rfl, fun j s e => by simp at e, fun i j e => by simp at e⟩
  | some d :: r, ss, h => by
    obtain ⟨ss', h1, h2⟩ := Option.map_eq_some_iff.mp h
    subst h2
    obtain ⟨i1, i2, i3⟩ := slotsX_get h1
    refine ⟨by simp [i1], fun j s e => ?_, fun i j e f => ?_⟩
    · cases j with
      | zero => simp at e; subst e; exact .inl ⟨d, rfl, rfl⟩
      | succ j =>
        simp at e
        rcases i2 j s e with ⟨x, y1, y2⟩ | ⟨x, y1, y2, y3⟩
        · exact .inl ⟨x, by simpa using y1, y2⟩
        · exact .inr ⟨x, by simpa using y1, y2, y3⟩
    · cases i with
      | zero => simp at e
      | succ i =>
        cases j with
        | zero => simp at f
        | succ j => rw [i3 i j (by simpa using e) (by simpa using f)]
  | none :: r, ss, h => by
    obtain ⟨x, h1, h2⟩ := Option.bind_eq_some_iff.mp h
    split at h2
    · rename_i hall
      obtain ⟨ss', h3, h4⟩ := Option.map_eq_some_iff.mp h2
      subst h4
      obtain ⟨i1, i2, i3⟩ := slotsX_get h3
      have hno : ∀ j : Nat, r[j]? ≠ some none := fun j e => by
        have := List.all_eq_true.mp hall _ (List.mem_of_getElem? e)
        cases this
      refine ⟨by simp [i1], fun j s e => ?_, fun i j e f => ?_⟩
      · cases j with
        | zero => simp at e; subst e; exact .inr ⟨x, rfl, h1, rfl⟩
        | succ j =>
          simp at e
          rcases i2 j s e with ⟨x, y1, y2⟩ | ⟨x, y1, y2, y3⟩
          · exact .inl ⟨x, by simpa using y1, y2⟩
          · exact absurd y1 (hno j)
      · cases i with
        | zero =>
          cases j with
          | zero => rfl
          | succ j => exact absurd (by simpa using f) (hno j)
        | succ i => exact absurd (by simpa using e) (hno i)
    · cases h2
theorem slotsX_handed {o : Option Own} : ∀ {as : AL} {ss : List Slot}, slotsX o as = some ss → ss.all handed = true
  | [], ss, h => by cases h; rfl
  | some d :: r, ss, h => by
    obtain ⟨ss', h1, h2⟩ := Option.map_eq_some_iff.mp h
    subst h2
    rw [List.all_cons, slotsX_handed h1]
    rfl
  | none :: r, ss, h => by
    obtain ⟨x, h1, h2⟩ := Option.bind_eq_some_iff.mp h
    split at h2
    · obtain ⟨ss', h3, h4⟩ := Option.map_eq_some_iff.mp h2
      subst h4
      rw [List.all_cons, slotsX_handed h3]
      rfl
    · cases h2
theorem backX_get {env e2 : Env} {i : Nat} : ∀ {as : AL} {ss : List Slot}, backX env i as ss = some e2 → (e2 = env ∧ ∀ j : Nat, as[j]? ≠ some none) ∨ ∃ (j : Nat) (o : Own) (s : Slot), as[j]? = some none ∧ ss[j]? = some (.lent o) ∧ env[i]? = some s ∧ e2 = env.set i (s.re o)
  | [], [], h => by cases h; exact .inl ⟨rfl, fun j e => by simp at e⟩
  | [], _ :: _, h => by cases h
  | some d :: r, [], h => by cases h
  | some d :: r, s :: ss, h => by
    rcases backX_get (as := r) (ss := ss) h with ⟨h1, h2⟩ | ⟨j, o, s, h1, h2, h3, h4⟩
    · exact .inl ⟨h1, fun j e => by
        cases j with
        | zero => simp at e
        | succ j => exact h2 j (by simpa using e)⟩
    · exact .inr ⟨j + 1, o, s, by simpa using h1, by simpa using h2, h3, h4⟩
  | none :: r, [], h => by cases h
  | none :: r, .lent o :: ss, h => by
    have h2 : (match env[i]? with | some s => some (env.set i (s.re o)) | none => none) = some e2 := h
    split at h2
    · rename_i s hs
      cases h2
      exact .inr ⟨0, o, s, rfl, rfl, hs, rfl⟩
    · cases h2
  | none :: r, .emp :: ss, h => by cases h
  | none :: r, .dat _ :: ss, h => by cases h
  | none :: r, .own _ :: ss, h => by cases h
def runX (i n : Nat) (φ : Fn) (as : AL) (env : Env) : Res D := if as.length = n then (match slotsX ((env[i]?).bind Slot.ow) as with
  | none => .bad
  | some ss => match φ ss with
    | .rt d ss' => (match backX env i as ss' with
      | some e2 => .ok d e2
      | none => .bad)
    | .exc c ss' => (match backX env i as ss' with
      | some e2 => .exc c e2
      | none => .bad)
    | .bad => .bad) else .bad
def eFn (i n : Nat) (φ : Fn) (l : M AL) : M D := fun env => (l env).bind fun as e => runX i n φ as e
section
variable {S : Gd} {W : WX} {σ : L2.St} {H F : Hp} {env : Env} {ad : Nat → List Addr} {i n : Nat} {φ : Fn} {as : AL} {vs : List V} {Q : VK} {E : XK}
theorem run_spF (sr : SR S σ H F env ad) (ra : ArgR S.T F σ i vs as) (p : Post S W σ F (runX i n φ as env) fun d _ H' F' _ => ∀ v, Rp S.T F' v d → Q v H') (hE : ∀ C H', W (.ref C) none σ H' → E (.ref C) none H') : spF S.T n φ vs H Q E := by
  unfold runX at p
  by_cases hn : as.length = n
  case neg => rw [if_neg hn] at p; exact p.elim
  rw [if_pos hn] at p
  cases q : slotsX ((env[i]?).bind Slot.ow) as with
  | none => rw [q] at p; exact p.elim
  | some ss =>
    rw [q] at p
    simp only at p
    obtain ⟨g1, g2, g3⟩ := slotsX_get q
    have hlv : vs.length = as.length := ra.length
    let OA : List Addr := if as.all Option.isSome = true then [] else ad i
    let adc : Nat → List Addr := fun j => match as[j]? with
      | some none => ad i
      | _ => []
    have adc_in : ∀ j a, a ∈ adc j → as[j]? = some none ∧ a ∈ ad i := fun j a ha => by
      have ha2 : a ∈ (match as[j]? with | some none => ad i | _ => []) := ha
      split at ha2
      · rename_i z
        exact ⟨z, ha2⟩
      · cases ha2
    have noall : ∀ j : Nat, as[j]? = some none → ¬ as.all Option.isSome = true := fun j e z => by
      have := List.all_eq_true.mp z _ (List.mem_of_getElem? e)
      cases this
    have sc : SR (gd S.T H F OA vs) (vs.map some) H F ss adc := by
      refine sr.enter (by rw [g1]; exact hlv) (fun j s e => ?_) (fun j hj => ?_) (fun a b c ha hb => ?_) (fun j a ha => ?_)
      · rcases g2 j s e with ⟨d, y1, y2⟩ | ⟨x, y1, y2, y3⟩
        · subst y2
          obtain ⟨v, v1, v2⟩ := ra.get y1
          refine ⟨?_, v, ?_, v2⟩
          · show (match as[j]? with | some none => ad i | _ => []) = []
            rw [y1]
          · rw [List.getElem?_map, v1]
            rfl
        · subst y3
          obtain ⟨v, v1, v2⟩ := ra.get y1
          obtain ⟨s0, z1, z2⟩ := Option.bind_eq_some_iff.mp y2
          obtain ⟨b, w1, w2⟩ := SlotAt.ow (sr.at_ i _ z1) z2
          refine ⟨b, ?_, ?_⟩
          · rw [List.getElem?_map, v1]
            have v3 : σ[i]? = some (some v) := v2
            rw [w1] at v3
            cases v3
            rfl
          · show OwnAt S.T F H b x (match as[j]? with | some none => ad i | _ => [])
            rw [y1]
            exact w2
      · show (match as[j]? with | some none => ad i | _ => []) = []
        rw [List.getElem?_eq_none (by rw [← g1]; exact hj)]
      · exact g3 a b (adc_in a c ha).1 (adc_in b c hb).1
      · refine ⟨(sr.mine i a (adc_in j a ha).2).1, ?_⟩
        show a ∈ (if as.all Option.isSome = true then [] else ad i)
        rw [if_neg (noall j (adc_in j a ha).1)]
        exact (adc_in j a ha).2
    -- behind the call
    have after : ∀ (ss' : List Slot) (e2 : Env) (H' F' : Hp) (ad' : Nat → List Addr), backX env i as ss' = some e2 → SR (gd S.T H F OA vs) (vs.map some) H' F' ss' ad' → ∃ ad2, SR S σ H' F' e2 ad2 := fun ss' e2 H' F' ad' hb c => by
      rcases backX_get hb with ⟨z1, z2⟩ | ⟨j, o, s, z1, z2, z3, z4⟩
      · subst z1
        have hall : as.all Option.isSome = true := List.all_eq_true.mpr fun x hx => by
          cases x with
          | some d => rfl
          | none =>
            obtain ⟨j, hj⟩ := List.getElem?_of_mem hx
            exact absurd hj (z2 j)
        have hnil : OA = [] := if_pos hall
        have lv := sr.leave c e2.length fun a ha => by
          rw [hnil] at ha
          cases ha
        rw [List.set_eq_of_length_le (Nat.le_refl _)] at lv
        exact ⟨_, lv⟩
      · subst z4
        have hOAi : OA = ad i := if_neg (noall j z1)
        have hOA : ∀ a ∈ OA, (∀ j, j ≠ i → a ∉ ad j) ∧ F a = none ∧ (S.H0 a = none ∨ a ∈ S.OA) := fun a ha => by
          rw [hOAi] at ha
          exact ⟨fun j hj hb => hj (sr.dis j i a hb ha), sr.mine i a ha⟩
        have lv := sr.leave c i hOA
        obtain ⟨v, v1, v2⟩ := ra.get z1
        obtain ⟨b, w1, w2⟩ := c.at_ j _ z2
        have hσ : σ[i]? = some (some (.ref b)) := by
          rw [List.getElem?_map, v1] at w1
          have v3 : σ[i]? = some (some v) := v2
          rw [v3]
          exact w1
        have hlt : i < env.length := (List.getElem?_eq_some_iff.mp z3).1
        have rp := lv.reput i (s.re o) (ad' j) (by rw [List.length_set]; exact hlt) (SlotAt.re hσ w2) (fun k a hk ha => ?_) (fun a ha => ?_) (fun hl => ?_)
        · rw [List.set_set] at rp
          exact ⟨_, rp⟩
        · rw [setA_ne hk]
          intro hb2
          rcases (c.mine j a ha).2 with y | y
          · exact sr.somes hb2 y
          · exact (hOA a y).1 k hk hb2
        · refine ⟨(c.mine j a ha).1, ?_⟩
          rcases (c.mine j a ha).2 with y | y
          · exact .inl (sr.dom a y)
          · exact (hOA a y).2.2
        · cases s with
          | lent o2 => exact sr.fix i o2 z3
          | emp => cases hl
          | dat _ => cases hl
          | own _ => cases hl
    refine ⟨F, ss, adc, OA, by rw [hlv]; exact hn, sc, slotsX_handed q, ?_⟩
    cases q2 : φ ss with
    | rt d ss' =>
      rw [q2] at p
      simp only at p
      cases q3 : backX env i as ss' with
      | none => rw [q3] at p; exact p.elim
      | some e2 =>
        rw [q3] at p
        intro v H' F' ad' le c r
        obtain ⟨ad2, sr2⟩ := after ss' e2 H' F' ad' q3 c
        exact p H' F' ad2 le sr2 v r
    | exc cc ss' =>
      rw [q2] at p
      simp only at p
      cases q3 : backX env i as ss' with
      | none => rw [q3] at p; exact p.elim
      | some e2 =>
        rw [q3] at p
        intro C H' F' ad' hc le c
        obtain ⟨ad2, sr2⟩ := after ss' e2 H' F' ad' q3 c
        exact hE C H' (p C H' F' ad2 hc le sr2)
    | bad => rw [q2] at p; exact p.elim
end
end DL
set_option Elab.async false
set_option linter.all false
set_option maxRecDepth 100000
set_option maxHeartbeats 2000000
namespace DL
open PySem PySem.Spec PyProof.Rows L2
abbrev wOf (E : XK) : WX := fun c d _ H => E c d H
structure Cal (P : Program) (w : World) (T : Tb) (mg : Str → Option Value) (base : Heap) (k : Nat) (x : Str) (n : Nat) (φ : Fn) : Prop where
  ex : ∃ f fd ps, FnOk P w T.K mg base (L2N.CX P w) k f fd ps (spF T n φ) ∧ mg x = some (.ref f) ∧ PySem.W.keepIn T.K (.ref f) = true ∧ Binds T.K fd ps []
structure CalC (P : Program) (w : World) (T : Tb) (mg : Str → Option Value) (base : Heap) (k : Nat) (c : Str) (n : Nat) (φ : Fn) : Prop where
  ex : ∃ C f fd ps, T.cls c = some C ∧ mg c = some (.ref C) ∧ Mk T.K C f ∧ FnOk P w T.K mg base (L2N.CX P w) k f fd ps (spF T n φ) ∧ Binds T.K fd ps []
section
variable {X : Cx} {T : Tb} {H0 F0 : Hp} {OA : List Addr} {V0 : L2.St} {E : XK} {e o : Expr} {es : List Expr} {pos p apos : Pos} {i n k : Nat} {φ : Fn} {x c mth : Str} {l : M AL} {md : M D}
theorem t_fn {σ : L2.St} {H : Hp} {Q : VK} (h : tD ⟨T, H0, F0, OA, V0⟩ (wOf E) (eFn i n φ l) σ H Q) : tCall (spF T n φ) [] E (tX ⟨T, H0, F0, OA, V0⟩ (wOf E) i l) σ H Q := by
  obtain ⟨F, env, ad, sr, p⟩ := h
  refine ⟨F, env, ad, sr, p.bind.imp fun as e1 H1 F1 ad1 le1 sr1 q vs ra => ?_⟩
  show spF T n φ (vs ++ []) H1 Q E
  rw [List.append_nil]
  exact run_spF (W := wOf E) sr1 ra q.2 fun C H' z => z
theorem de_fn (C : Cal X.prog X.w T X.mg X.base k x n φ) (hr : Room k X.A) (tk : L2N.Takes X (wOf E)) (ha : PA X (e :: es) (tX ⟨T, H0, F0, OA, V0⟩ (wOf E) i l)) (hK : X.K = T.K := by rfl) (hg : Gl X x := by rfl) (hdb : (x == ("__debug__" : Str)) = false := by decide)
    (he : starEach (e :: es) X.env = (false, eval e X.env) :: starEach es X.env := by exact star_ok _ _ _ rfl) (hpl : (backTo pos (starEach es X.env)).any (·.1) = false := by rfl) : PE X (.Call (.Name x p) (e :: es) [] pos) (tD ⟨T, H0, F0, OA, V0⟩ (wOf E) (eFn i n φ l)) := by
  obtain ⟨f, fd, ps, h1, h2, h3, h4⟩ := C.ex
  rw [← hK] at h1 h3 h4
  exact PE.imp (pe_call h1 hr hg h2 h3 h4 .nil (L2N.passes_call tk fun _ _ _ _ z => z) ha hdb he hpl) fun σ H Q h => t_fn h
theorem de_fn0 (C : Cal X.prog X.w T X.mg X.base k x n φ) (hr : Room k X.A) (tk : L2N.Takes X (wOf E)) (hK : X.K = T.K := by rfl) (hg : Gl X x := by rfl) (hdb : (x == ("__debug__" : Str)) = false := by decide) : PE X (.Call (.Name x p) [] [] pos) (tD ⟨T, H0, F0, OA, V0⟩ (wOf E) (eFn i n φ xNil)) := by
  obtain ⟨f, fd, ps, h1, h2, h3, h4⟩ := C.ex
  rw [← hK] at h1 h3 h4
  refine PE.imp (pe_call0 h1 hr hg h2 h3 h4 .nil (L2N.passes_call tk fun _ _ _ _ z => z) hdb) fun σ H Q h => ?_
  obtain ⟨F, env, ad, sr, p⟩ := h
  show spF T n φ ([] ++ []) H Q E
  rw [List.append_nil]
  exact run_spF (W := wOf E) sr .nil (show Post _ _ σ F (runX i n φ [] env) _ from p) fun C H' z => z
end
def tO (S : Gd) (W : WX) (m : M Own) : TE := fun σ H Q => ∃ F env ad, SR S σ H F env ad ∧ Post S W σ F (m env) fun o _ H' F' ad' => ∀ p fp, OwnAt S.T F' H' p o fp → (∀ a ∈ fp, F' a = none ∧ S.H0 a = none ∧ ∀ j, a ∉ ad' j) → Q (.ref p) H'
section
variable {X : Cx} {S : Gd} {W : WX} {e : Expr} {es : List Expr} {pos : Pos} {m : M Own} {l : M (List D)}
def eFrz (m : M Own) : M D := fun env => (m env).bind fun o e => lift o.dat? e
theorem de_frz (h : PE X e (tO S W m)) : PE X e (tD S W (eFrz m)) :=
  PE.imp h fun σ H Q ⟨F, env, ad, sr, p⟩ => ⟨F, env, ad, sr, p.bind.imp fun o e1 H1 F1 ad1 le1 sr1 q b fp oa hf => by
    obtain ⟨d, e2, q2⟩ := Post.lift q.2
    have le : Le F1 (fun a => if a ∈ fp then H1 a else F1 a) := fun a u e => by
      show (if a ∈ fp then H1 a else F1 a) = some u
      rw [if_neg fun z => by rw [(hf a z).1] at e; cases e]
      exact e
    refine q2 H1 (fun a => if a ∈ fp then H1 a else F1 a) ad1 le ?_ _ (own_rp le oa (fun a ha => if_pos ha) e2)
    refine ⟨sr1.len, fun a u e => ?_, fun i s e => (sr1.at_ i s e).mono le fun _ _ => rfl, sr1.out, sr1.dis, fun i a ha => ⟨?_, (sr1.mine i a ha).2⟩, sr1.keep, sr1.tab, fun a u e => ?_, fun a u e => ?_, sr1.le0.trans le, sr1.dom, sr1.fix⟩
    · have e3 : (if a ∈ fp then H1 a else F1 a) = some u := e
      by_cases z : a ∈ fp
      · rw [if_pos z] at e3; exact e3
      · rw [if_neg z] at e3; exact sr1.sub a u e3
    · show (if a ∈ fp then H1 a else F1 a) = none
      rw [if_neg fun z => (hf a z).2.2 i ha]
      exact (sr1.mine i a ha).1
    · have e3 : (if a ∈ fp then H1 a else F1 a) = some u := e
      by_cases z : a ∈ fp
      · rw [if_pos z] at e3
        obtain ⟨w, e4, e5⟩ := ownAt_kind oa z
        rw [e3] at e4
        cases e4
        exact e5.notb
      · rw [if_neg z] at e3; exact sr1.notb a u e3
    · have e3 : (if a ∈ fp then H1 a else F1 a) = some u := e
      by_cases z : a ∈ fp
      · exact .inr (.inl (hf a z).2.1)
      · rw [if_neg z] at e3; exact sr1.old a u e3⟩
def sOwn (m : M Own) (i : Nat) : Env → Fl := fun env => (m env).fl fun o e => .nx (e.set i (.own o))
theorem ds_own {i : Nat} {x : Str} {pos' : Pos} (hN : X.N.Nodup) (hi : X.N[i]? = some x) (hx : Loc X.env.scope x) (he : PE X e (tO S W m)) (hlt : i < X.N.length := by exact Nat.le_of_ble_eq_true rfl) (hs : swapsWith e (some (.Name x pos')) pos.line X.env = pure false := by rfl)
    (hf : X.fn x = true ∨ X.env.scope.names.lookup x = some .local := by first | exact .inl rfl | exact .inr rfl | assumption) : PS X (.Assign [.Name x pos'] e pos) (tS S W (sOwn m i)) :=
  PS.imp (ps_set hN hi hx he hs hf) fun d σ H ⟨F, env, ad, sr, p⟩ => ⟨F, env, ad, sr, (Post.fl p).imp fun o e1 H1 F1 ad1 le1 sr1 q b fp oa hf => by
    by_cases hl : i < e1.length
    · exact q _ H1 F1 _ (Le.refl F1) (sr1.put i (some (.ref b)) (.own o) fp rfl (fun _ => ⟨b, rfl, oa⟩) (fun z => absurd hl (by omega)) (fun j a _ ha => (hf a ha).2.2 j) fun a ha => ⟨(hf a ha).1, .inl (hf a ha).2.1⟩)
    · have e0 : e1.set i (.own o) = e1 := List.set_eq_of_length_le (by omega)
      have e2 : σ.set i (some (.ref b)) = σ := List.set_eq_of_length_le (by have := sr1.len; omega)
      rw [e0] at q
      show d.nx (σ.set i (some (V.ref b))) H1
      rw [e2]
      exact q σ H1 F1 ad1 (Le.refl F1) sr1⟩
def oLst (l : M (List D)) : M Own := fun env => (l env).bind fun ds e => if ds.length ≤ 1000 then .ok (.ol ds) e else .bad
theorem do_lst (h : PA X es (tL S W l)) : PE X (.List es pos) (tO S W (oLst l)) :=
  PE.imp (pe_lst h) fun σ H Q ⟨F, env, ad, sr, p⟩ => ⟨F, env, ad, sr, p.bind.imp fun ds e1 H1 F1 ad1 le1 sr1 q vs rs => by
    have q2 := q.2
    by_cases hl : ds.length ≤ 1000
    · rw [if_pos hl] at q2
      refine ⟨by rw [rs.length]; exact size1000 hl, fun b hb => ?_⟩
      refine q2 _ F1 ad1 (Le.refl F1) (sr1.more hb) b [b] ⟨rfl, vs, upd_same, rs⟩ fun a ha => ?_
      rcases List.mem_cons.mp ha with z | z
      · subst z
        exact ⟨sr1.fnone hb, sr1.dom a hb, fun j hj => sr1.somes hj hb⟩
      · cases z
    · rw [if_neg hl] at q2
      exact q2.elim⟩
end
end DL
set_option Elab.async false
set_option linter.all false
set_option maxRecDepth 100000
set_option maxHeartbeats 2000000
namespace DL
open PySem PySem.Spec PyProof.Rows L2
theorem PE.all {X : Cx} {e : Expr} {α : Type} {t : α → TE} (h : ∀ x, PE X e (t x)) : PE X e (fun σ H Q => ∃ x, t x σ H Q) := ⟨fun pins s σ H Q I ⟨x, q⟩ => (h x).run pins s σ H Q I q⟩
theorem PTs.all {X : Cx} {e : List Expr} {α : Type} {t : α → TT} (h : ∀ x, PTs X e (t x)) : PTs X e (fun σ H Q => ∃ x, t x σ H Q) := ⟨fun pins s σ H Q I ⟨x, q⟩ => (h x).run pins s σ H Q I q⟩
theorem PG.all {X : Cx} {e : Expr} {α : Type} {t : α → TG} (h : ∀ x, PG X e (t x)) : PG X e (fun v σ H Q => ∃ x, t x v σ H Q) := ⟨fun pins s σ H v u Q I r ⟨x, q⟩ => (h x).run pins s σ H v u Q I r q⟩
theorem PI.all {X : Cx} {tg e : Expr} {α : Type} {t : α → TI} (h : ∀ x, PI X tg e (t x)) : PI X tg e (fun σ H Q => ∃ x, t x σ H Q) := ⟨fun pins s σ H Q I ⟨x, q⟩ => (h x).run pins s σ H Q I q⟩
theorem PTs.imp {X : Cx} {e : List Expr} {t t' : TT} (h : PTs X e t) (i : ∀ σ H Q, t' σ H Q → t σ H Q) : PTs X e t' := ⟨fun pins s σ H Q I q => h.run pins s σ H Q I (i σ H Q q)⟩
abbrev W0 : WX := wOf E0
def bYes : M Bool := fun env => .ok true env
theorem dts_nil {X : Cx} {S : Gd} {W : WX} : PTs X [] (tT S W bYes) := PTs.imp pts_nil fun σ H Q ⟨F, env, ad, sr, p⟩ => p H F ad (Le.refl F) sr
def wipeE (e : Env) : List Nat → Env
  | [] => e
  | v :: vs => (wipeE e vs).set v .emp
theorem wipeE_length (e : Env) : ∀ vs : List Nat, (wipeE e vs).length = e.length
  | [] => rfl
  | v :: vs => by unfold wipeE; rw [List.length_set, wipeE_length e vs]
theorem wipeE_out {e : Env} {i : Nat} : ∀ {vs : List Nat}, i ∉ vs → (wipeE e vs)[i]? = e[i]?
  | [], _ => rfl
  | v :: vs, h => by
    unfold wipeE
    rw [get_set_ne fun z => h (by rw [z]; exact List.mem_cons_self ..)]
    exact wipeE_out fun z => h (List.mem_cons_of_mem _ z)
theorem wipeE_in {e : Env} {i : Nat} {s : Slot} : ∀ {vs : List Nat}, i ∈ vs → (wipeE e vs)[i]? = some s → s = .emp
  | [], h, _ => by cases h
  | v :: vs, h, q => by
    unfold wipeE at q
    by_cases z : i = v
    · subst z
      exact get_set_same q
    · rw [get_set_ne z] at q
      rcases List.mem_cons.mp h with y | y
      · exact absurd y z
      · exact wipeE_in y q
theorem wipe_eq {σ σ' : L2.St} {js : List Nat} : ∀ {vs : List Nat}, But js σ σ' → (∀ j ∈ js, j ∈ vs) → wipe σ' vs = wipe σ vs := fun {vs} b h => by
  apply List.ext_getElem?
  intro i
  by_cases hi : i ∈ vs
  · have key : ∀ (τ : L2.St) (ws : List Nat), i ∈ ws → (wipe τ ws)[i]? = if i < τ.length then some none else none := fun τ ws => by
      induction ws with
      | nil => intro z; cases z
      | cons v ws ih =>
        intro z
        unfold wipe
        by_cases y : i = v
        · subst y
          rw [List.getElem?_set]
          simp only [if_true, wipe_length]
        · rw [get_set_ne y]
          rcases List.mem_cons.mp z with y2 | y2
          · exact absurd y2 y
          · exact ih y2
    rw [key σ' vs hi, key σ vs hi, b.1]
  · rw [wipe_out hi, wipe_out hi]
    exact b.2 i fun z => hi (h i z)
section
variable {S : Gd} {σ : L2.St} {H F : Hp} {env : Env} {ad : Nat → List Addr}
theorem SR.wipe (h : SR S σ H F env ad) : ∀ vs : List Nat, ∃ ad', SR S (L2.wipe σ vs) H F (wipeE env vs) ad' ∧ ∀ j a, a ∈ ad' j → a ∈ ad j
  | [] => ⟨ad, h, fun _ _ z => z⟩
  | v :: vs => by
    obtain ⟨ad', h1, h2⟩ := SR.wipe h vs
    refine ⟨_, h1.drop v none, fun j a ha => ?_⟩
    by_cases z : j = v
    · rw [z, setA_same] at ha
      cases ha
    · rw [setA_ne z] at ha
      exact h2 j a ha
def back1 (e0 : Env) (e : Env) : List Nat → Env
  | [] => e
  | v :: vs => (back1 e0 e vs).set v (match e0[v]? with
    | some (.dat d) => .dat d
    | _ => .emp)
theorem back1_length (e0 e : Env) : ∀ vs : List Nat, (back1 e0 e vs).length = e.length
  | [] => rfl
  | v :: vs => by unfold back1; rw [List.length_set, back1_length e0 e vs]
theorem back1_out {e0 e : Env} {i : Nat} : ∀ {vs : List Nat}, i ∉ vs → (back1 e0 e vs)[i]? = e[i]?
  | [], _ => rfl
  | v :: vs, h => by
    unfold back1
    rw [get_set_ne fun z => h (by rw [z]; exact List.mem_cons_self ..)]
    exact back1_out fun z => h (List.mem_cons_of_mem _ z)
theorem back1_in {e0 e : Env} {i : Nat} {s : Slot} : ∀ {vs : List Nat}, i ∈ vs → (back1 e0 e vs)[i]? = some s → s = .emp ∨ ∃ d, s = .dat d ∧ e0[i]? = some (.dat d)
  | [], h, _ => by cases h
  | v :: vs, h, q => by
    unfold back1 at q
    by_cases z : i = v
    · subst z
      have q2 := get_set_same q
      split at q2
      · rename_i d hd
        exact .inr ⟨d, q2, hd⟩
      · exact .inl q2
    · rw [get_set_ne z] at q
      rcases List.mem_cons.mp h with y | y
      · exact absurd y z
      · exact back1_in y q
theorem SR.unwipe {H1 F1 : Hp} {e : Env} {ad1 : Nat → List Addr} (h0 : SR S σ H F env ad) {vs : List Nat} (le : Le F F1) (h : SR S (L2.wipe σ vs) H1 F1 (wipeE e vs) ad1) : SR S σ H1 F1 (back1 env (wipeE e vs) vs) ad1 := by
  have hl : σ.length = (wipeE e vs).length := by
    rw [← wipe_length σ vs]
    exact h.len
  refine ⟨by rw [back1_length]; exact hl, h.sub, fun i s q => ?_, fun i hi => h.out i (by rw [back1_length] at hi; exact hi), h.dis, h.mine, h.keep, h.tab, h.notb, h.old, h.le0, h.dom, fun i o q => ?_⟩
  · by_cases hi : i ∈ vs
    · have hlt : i < (wipeE e vs).length := by
        have := (List.getElem?_eq_some_iff.mp q).1
        rwa [back1_length] at this
      have ea : ad1 i = [] := by
        have z := h.at_ i _ (List.getElem?_eq_getElem hlt)
        rw [wipeE_in hi (List.getElem?_eq_getElem hlt)] at z
        exact z
      rcases back1_in hi q with z | ⟨d, z1, z2⟩
      · rw [z, ea]
        rfl
      · rw [z1, ea]
        obtain ⟨_, v, y1, y2⟩ := h0.at_ i _ z2
        exact ⟨rfl, v, y1, y2.mono le⟩
    · rw [back1_out hi] at q
      have z := h.at_ i s q
      rw [wipe_out hi] at z
      exact z
  · by_cases hi : i ∈ vs
    · rcases back1_in hi q with z | ⟨d, z1, z2⟩
      · cases z
      · cases z1
    · rw [back1_out hi] at q
      have z := h.fix i o q
      rw [wipe_out hi] at z
      exact z
def allA (n : Nat) (ad : Nat → List Addr) : List Addr := (List.range n).flatMap ad
theorem mem_allA {n : Nat} {a : Addr} : a ∈ allA n ad ↔ ∃ i, i < n ∧ a ∈ ad i := by
  unfold allA
  rw [List.mem_flatMap]
  exact ⟨fun ⟨i, h1, h2⟩ => ⟨i, List.mem_range.mp h1, h2⟩, fun ⟨i, h1, h2⟩ => ⟨i, List.mem_range.mpr h1, h2⟩⟩
theorem SR.base (h : SR S σ H F env ad) : SR ⟨S.T, H, F, allA env.length ad, S.V0⟩ σ H F env ad :=
  ⟨h.len, h.sub, h.at_, h.out, h.dis, fun i a ha => ⟨(h.mine i a ha).1, .inr (mem_allA.mpr ⟨i, Nat.lt_of_not_le (fun z => by rw [h.out i z] at ha; cases ha), ha⟩)⟩, fun _ _ _ e _ => e, h.tab, h.notb, fun _ _ e => .inl e, Le.refl F, fun _ e => e, h.fix⟩
theorem SR.unbase {σ' : L2.St} {H' F' : Hp} {env' : Env} {ad' : Nat → List Addr} (h : SR S σ H F env ad) (c : SR ⟨S.T, H, F, allA env.length ad, S.V0⟩ σ' H' F' env' ad') : SR S σ' H' F' env' ad' := by
  have oa : ∀ a, a ∈ allA env.length ad → F a = none ∧ (S.H0 a = none ∨ a ∈ S.OA) := fun a ha => by
    obtain ⟨i, _, h2⟩ := mem_allA.mp ha
    exact h.mine i a h2
  refine ⟨c.len, c.sub, c.at_, c.out, c.dis, fun i a ha => ?_, fun a o na e nt => ?_, c.tab, c.notb, fun a o e => ?_, h.le0.trans c.le0, fun a e => h.dom a (c.dom a e), c.fix⟩
  · refine ⟨(c.mine i a ha).1, ?_⟩
    rcases (c.mine i a ha).2 with z | z
    · exact .inl (h.dom a z)
    · exact (oa a z).2
  · refine c.keep a o (fun z => ?_) (h.keep a o na e nt) nt
    rcases (oa a z).2 with y | y
    · rw [e] at y; cases y
    · exact na y
  · rcases c.old a o e with z | z | z
    · exact h.old a o z
    · exact .inr (.inl (h.dom a z))
    · exact .inr (oa a z).2
theorem SR.aside {σ' : L2.St} {H' F' : Hp} {env' : Env} {ad' : Nat → List Addr} {p : Addr} {o : HO} (h : SR S σ H F env ad) (c : SR ⟨S.T, H, F, allA env.length ad, S.V0⟩ σ' H' F' env' ad') (hp : H p = some o) (nt : NoTbl o) (nf : F p = none) (na : ∀ j, p ∉ ad j) :
    H' p = some o ∧ F' p = none ∧ ∀ j, p ∉ ad' j := by
  have no : p ∉ allA env.length ad := fun z => by
    obtain ⟨i, _, h2⟩ := mem_allA.mp z
    exact na i h2
  refine ⟨c.keep p o no hp nt, ?_, fun j hj => ?_⟩
  · cases q : F' p with
    | none => rfl
    | some u =>
      rcases c.old p u q with z | z | z
      · have z2 : F p = some u := z
        rw [nf] at z2; cases z2
      · have z2 : H p = none := z
        rw [hp] at z2; cases z2
      · exact absurd z no
  · rcases (c.mine j p hj).2 with z | z
    · have z2 : H p = none := z
      rw [hp] at z2; cases z2
    · exact no z
theorem SR.side (h : SR S σ H F env ad) {p : Addr} {xs ys : List V} (hp : H p = some (.lst xs)) (nf : F p = none) (na : ∀ j, p ∉ ad j) (n0 : S.H0 p = none) : SR S σ (upd H p (.lst ys)) F env ad := by
  refine ⟨h.len, fun a u e => ?_, fun i s e => (h.at_ i s e).mono (Le.refl F) fun a ha => upd_ne fun z => na i (z ▸ ha), h.out, h.dis, h.mine, fun a u nA e nt => ?_, ⟨fun q hq => ?_, fun a ps e => h.tab.only a ps (upd_tbl (fun _ z => by cases z) e)⟩, h.notb, h.old, h.le0, fun a e => ?_, h.fix⟩
  · rw [upd_ne fun z => by rw [z, nf] at e; cases e]
    exact h.sub a u e
  · rw [upd_ne fun z => by rw [z, n0] at e; cases e]
    exact h.keep a u nA e nt
  · obtain ⟨ps, t1, t2, t3⟩ := h.tab.tabs q hq
    refine ⟨ps, ?_, t2, fun pos cv hc => ?_⟩
    · rw [upd_ne fun z => by rw [z, hp] at t1; cases t1]
      exact t1
    · obtain ⟨c, e1, e2⟩ := t3 pos cv hc
      refine ⟨c, e1, ?_⟩
      rw [upd_ne fun z => by rw [z, hp] at e2; cases e2]
      exact e2
  · by_cases z : a = p
    · rw [z, upd_same] at e; cases e
    · rw [upd_ne z] at e
      exact h.dom a e
end
def noX {α : Type} : Res α → Res α
  | .exc _ _ => .bad
  | r => r
def compD (vs : List Nat) (f : Tg) (tt : M Bool) (te : M D) : List D → Env → Res (List D)
  | [], env => .ok [] env
  | d :: r, env => match f d env with
    | none => .bad
    | some e1 => (noX (tt e1)).bind fun b e2 => if b = true then (noX (te e2)).bind fun y e3 => (compD vs f tt te r (wipeE e3 vs)).bind fun ys e4 => .ok (y :: ys) e4
      else compD vs f tt te r (wipeE e2 vs)
def oLc (vs : List Nat) (mi : M (List D)) (f : Tg) (tt : M Bool) (te : M D) : M Own := fun env => (mi env).bind fun ds e => if ds.length ≤ 1000000 then (compD vs f tt te ds (wipeE e vs)).bind fun ys e2 => .ok (.ol ys) (back1 e (wipeE e2 vs) vs) else .bad
theorem compD_ok {vs : List Nat} {f : Tg} {tt : M Bool} {te : M D} : ∀ {ds : List D} {env : Env}, (∃ ys e, compD vs f tt te ds env = .ok ys e) ∨ compD vs f tt te ds env = .bad
  | [], env => .inl ⟨[], env, rfl⟩
  | d :: r, env => by
    unfold compD
    split
    · exact .inr rfl
    · rename_i e1 _
      cases q : tt e1 with
      | bad => exact .inr rfl
      | exc c e2 => exact .inr rfl
      | ok b e2 =>
        show (∃ ys e, (if b = true then _ else _) = _) ∨ (if b = true then _ else _) = _
        cases b with
        | true =>
          rw [if_pos rfl]
          cases q2 : te e2 with
          | bad => exact .inr rfl
          | exc c e3 => exact .inr rfl
          | ok y e3 =>
            show (∃ ys e, (compD vs f tt te r (wipeE e3 vs)).bind _ = _) ∨ _
            rcases compD_ok (ds := r) (env := wipeE e3 vs) with ⟨ys, e4, h⟩ | h
            · exact .inl ⟨y :: ys, e4, by rw [h]; rfl⟩
            · exact .inr (by
                show (compD vs f tt te r (wipeE e3 vs)).bind _ = _
                rw [h]
                rfl)
        | false =>
          rw [if_neg Bool.false_ne_true]
          exact compD_ok
theorem compD_len {vs : List Nat} {f : Tg} {tt : M Bool} {te : M D} : ∀ {ds : List D} {env : Env} {ys : List D} {e : Env}, compD vs f tt te ds env = .ok ys e → ys.length ≤ ds.length
  | [], env, ys, e, h => by cases h; exact Nat.le_refl _
  | d :: r, env, ys, e, h => by
    unfold compD at h
    split at h
    · cases h
    · rename_i e1 _
      cases q : tt e1 with
      | bad => rw [q] at h; cases h
      | exc c e2 => rw [q] at h; cases h
      | ok b e2 =>
        rw [q] at h
        have h2 : (if b = true then (noX (te e2)).bind fun y e3 => (compD vs f tt te r (wipeE e3 vs)).bind fun ys e4 => .ok (y :: ys) e4 else compD vs f tt te r (wipeE e2 vs)) = Res.ok ys e := h
        cases b with
        | true =>
          rw [if_pos rfl] at h2
          cases q2 : te e2 with
          | bad => rw [q2] at h2; cases h2
          | exc c e3 => rw [q2] at h2; cases h2
          | ok y e3 =>
            rw [q2] at h2
            have h3 : ((compD vs f tt te r (wipeE e3 vs)).bind fun ys e4 => .ok (y :: ys) e4) = Res.ok ys e := h2
            rcases compD_ok (vs := vs) (f := f) (tt := tt) (te := te) (ds := r) (env := wipeE e3 vs) with ⟨zs, e4, q3⟩ | q3
            · rw [q3] at h3
              cases h3
              have := compD_len q3
              simp
              exact this
            · rw [q3] at h3
              cases h3
        | false =>
          rw [if_neg Bool.false_ne_true] at h2
          have := compD_len h2
          simp
          omega
section
variable {X : Cx} {S : Gd} {W : WX} {elt tg iter : Expr} {ifs : List Expr} {scope : Scope} {own : List (Str × Nat)} {pos : Pos} {mi : M (List D)} {f : Tg} {js : List Nat} {tt : M Bool} {te : M D}
abbrev Gr (S : Gd) := { S' : Gd // S'.T = S.T ∧ S'.V0 = S.V0 }
abbrev tGa (S : Gd) (js : List Nat) (f : Tg) : TG := fun v σ H Q => ∃ G : Gr S, tG G.1 js f v σ H Q
abbrev tTa (S : Gd) (t : M Bool) : TT := fun σ H Q => ∃ G : Gr S, tT G.1 W0 t σ H Q
abbrev tDa (S : Gd) (m : M D) : TE := fun σ H Q => ∃ G : Gr S, tD G.1 W0 m σ H Q
def grB (S : Gd) (H F : Hp) (n : Nat) (ad : Nat → List Addr) : Gr S := ⟨⟨S.T, H, F, allA n ad, S.V0⟩, rfl, rfl⟩
theorem t_lc {vs : List Nat} (hj : ∀ j ∈ js, j ∈ vs) {σ : L2.St} {H : Hp} {Q : VK} (h : tO S W (oLc vs mi f tt te) σ H Q) : tLc (tI S W mi) (tGa S js f) (tTa S tt) (tDa S te) vs σ H Q := by
  obtain ⟨F, env, ad, sr, p⟩ := h
  refine ⟨F, env, ad, sr, p.bind.imp fun ds e1 H1 F1 ad1 le1 sr1 q J hJ b hb => ?_⟩
  have q1 := q.2
  by_cases hlen : ds.length ≤ 1000000
  case neg => rw [if_neg hlen] at q1; exact q1.elim
  rw [if_pos hlen] at q1
  rcases compD_ok (vs := vs) (f := f) (tt := tt) (te := te) (ds := ds) (env := wipeE e1 vs) with ⟨ys, ez, hc⟩ | hc
  case inr => rw [hc] at q1; exact q1.elim
  rw [hc] at q1
  obtain ⟨ad0, sr0, sub0⟩ := sr1.wipe vs
  have n0 : S.H0 b = none := sr1.dom b hb
  have yl : ys.length ≤ ds.length := compD_len hc
  -- the word: what is still to be made, and what is there
  refine ⟨fun i m H => m = ds.length - i ∧ i ≤ ds.length ∧ ∃ F2 e2 ad2 done rest acc, ys = done ++ rest ∧ compD vs f tt te (ds.drop i) e2 = .ok rest ez ∧ Le F1 F2 ∧ SR S (wipe σ vs) H F2 e2 ad2 ∧ H b = some (.lst acc) ∧ RpAll S.T F2 acc done ∧ F2 b = none ∧ (∀ j, b ∉ ad2 j) ∧ (∃ e3, e2 = wipeE e3 vs) ∧ done.length ≤ ds.length,
    ⟨ds.length, by simp, Nat.zero_le _, F1, wipeE e1 vs, ad0, [], ys, [], rfl, hc, Le.refl F1, sr0.more hb, upd_same, .nil, sr1.fnone hb, fun j hj => sr1.somes (sub0 j b hj) hb, ⟨e1, rfl⟩, Nat.zero_le _⟩, ?_⟩
  rintro i m H ⟨rfl, hi, F2, e2, ad2, done, rest, acc, ey, hcd, le2, sr2, hacc, racc, nf, na, ⟨e3, ee⟩, hdl⟩
  by_cases hlt : i < ds.length
  · have hd : ds[i]? = some ds[i] := List.getElem?_eq_getElem hlt
    rw [List.drop_eq_getElem_cons hlt] at hcd
    unfold compD at hcd
    obtain ⟨g, y⟩ := hJ.turn hd sr2 le2
    cases q3 : f ds[i] e2 with
    | none => rw [q3] at hcd; cases hcd
    | some e4 =>
      rw [q3] at hcd
      simp only at hcd
      cases q4 : tt e4 with
      | bad => rw [q4] at hcd; cases hcd
      | exc c e5 => rw [q4] at hcd; cases hcd
      | ok bb e5 =>
        rw [q4] at hcd
        have hcd2 : (if bb = true then (noX (te e5)).bind fun y e3 => (compD vs f tt te (ds.drop (i + 1)) (wipeE e3 vs)).bind fun ys e4 => .ok (y :: ys) e4 else compD vs f tt te (ds.drop (i + 1)) (wipeE e5 vs)) = Res.ok rest ez := hcd
        refine .inr ⟨g, fun H' => i + 1 ≤ ds.length ∧ ∃ F2 e2 ad2 done rest acc, ys = done ++ rest ∧ compD vs f tt te (ds.drop (i + 1)) e2 = .ok rest ez ∧ Le F1 F2 ∧ SR S (wipe σ vs) H' F2 e2 ad2 ∧ H' b = some (.lst acc) ∧ RpAll S.T F2 acc done ∧ F2 b = none ∧ (∀ j, b ∉ ad2 j) ∧ (∃ e3, e2 = wipeE e3 vs) ∧ done.length ≤ ds.length, fun H' z => ⟨ds.length - (i + 1), by omega, rfl, z.1, z.2⟩, fun x H' hy => ?_⟩
        obtain ⟨F3, le3, sr3, r3, hb3⟩ := y x H' hy
        obtain ⟨hacc3, nf3⟩ := hb3 b _ hacc nf
        have wv : wipe (wipe σ vs) vs = wipe σ vs := wipe_eq (js := vs) ⟨wipe_length σ vs, fun j hj => wipe_out hj⟩ fun _ z => z
        -- at the turn's end
        have fin : ∀ (σ' : L2.St) (H6 F6 : Hp) (e6 : Env) (ad6 : Nat → List Addr) (acc' : List V) (done' rest' : List D), But js (wipe σ vs) σ' → SR ⟨S.T, H', F3, allA e2.length ad2, S.V0⟩ σ' H6 F6 e6 ad6 → ys = done' ++ rest' → compD vs f tt te (ds.drop (i + 1)) (wipeE e6 vs) = .ok rest' ez → RpAll S.T F6 acc' done' → done'.length ≤ ds.length →
            i + 1 ≤ ds.length ∧ ∃ F2 e2 ad2 done rest acc, ys = done ++ rest ∧ compD vs f tt te (ds.drop (i + 1)) e2 = .ok rest ez ∧ Le F1 F2 ∧ SR S (wipe σ vs) (upd H6 b (.lst acc')) F2 e2 ad2 ∧ (upd H6 b (.lst acc')) b = some (.lst acc) ∧ RpAll S.T F2 acc done ∧ F2 b = none ∧ (∀ j, b ∉ ad2 j) ∧ (∃ e3, e2 = wipeE e3 vs) ∧ done.length ≤ ds.length := fun σ' H6 F6 e6 ad6 acc' done' rest' but c h1 h2 h3 h4 => by
          obtain ⟨a1, a2, a3⟩ := sr3.aside c hacc3 notb_lst nf3 na
          have s6 := (sr3.unbase c).side (ys := acc') a1 a2 a3 n0
          obtain ⟨ad7, s7, sub7⟩ := s6.wipe vs
          have ew : wipe σ' vs = wipe σ vs := (wipe_eq but hj).trans wv
          rw [ew] at s7
          exact ⟨by omega, F6, wipeE e6 vs, ad7, done', rest', acc', h1, h2, (le2.trans le3).trans c.le0, s7, upd_same, h3, a2, fun j hj => a3 j (sub7 j b hj), ⟨e6, rfl⟩, h4⟩
        refine ⟨grB S H' F3 e2.length ad2, F3, e2, ad2, ds[i], e4, sr3.base, r3, q3, fun σ' ad' sr4 but => ⟨(wipe_eq but hj).trans wv, grB S H' F3 e2.length ad2, F3, e4, ad', sr4, ?_⟩⟩
        rw [q4]
        intro H5 F5 ad5 le5 sr5
        cases bb with
        | true =>
          rw [if_pos rfl] at hcd2 ⊢
          cases q5 : te e5 with
          | bad => rw [q5] at hcd2; cases hcd2
          | exc c e6 => rw [q5] at hcd2; cases hcd2
          | ok yy e6 =>
            rw [q5] at hcd2
            have hcd3 : ((compD vs f tt te (ds.drop (i + 1)) (wipeE e6 vs)).bind fun ys e4 => .ok (yy :: ys) e4) = Res.ok rest ez := hcd2
            refine ⟨grB S H' F3 e2.length ad2, F5, e5, ad5, sr5, ?_⟩
            rw [q5]
            intro H6 F6 ad6 le6 sr6 v rv
            obtain ⟨a1, a2, a3⟩ := sr3.aside sr6 hacc3 notb_lst nf3 na
            rcases compD_ok (vs := vs) (f := f) (tt := tt) (te := te) (ds := ds.drop (i + 1)) (env := wipeE e6 vs) with ⟨zs, ew, hz⟩ | hz
            · rw [hz] at hcd3
              have e9 : Res.ok (yy :: zs) ew = Res.ok rest ez := hcd3
              cases e9
              have hdl2 : (done ++ [yy]).length ≤ ds.length := by
                have e10 : ys.length = done.length + (zs.length + 1) := by rw [ey]; simp
                simp
                omega
              refine ⟨acc, a1, ?_, fin σ' H6 F6 e6 ad6 (acc ++ [v]) (done ++ [yy]) zs but sr6 (by rw [ey]; simp) hz ((racc.mono (le3.trans sr6.le0)).append (.one rv)) hdl2⟩
              have e11 := racc.length
              simp at hdl2
              rw [sizeLine_eq]
              omega
            · rw [hz] at hcd3
              cases hcd3
        | false =>
          rw [if_neg Bool.false_ne_true] at hcd2 ⊢
          obtain ⟨a1, a2, a3⟩ := sr3.aside sr5 hacc3 notb_lst nf3 na
          have z := fin σ' H5 F5 e5 ad5 acc done rest but sr5 ey hcd2 (racc.mono (le3.trans sr5.le0)) hdl
          have eu : upd H5 b (.lst acc) = H5 := by
            funext c
            by_cases hc2 : c = b
            · rw [hc2, upd_same, a1]
            · rw [upd_ne hc2]
          rw [eu] at z
          exact z
  · have e0 : i = ds.length := by omega
    subst e0
    rw [List.drop_length] at hcd
    cases hcd
    subst ee
    rw [List.append_nil] at ey
    subst ey
    have su := sr1.unwipe (vs := vs) (e := wipeE e3 vs) (ad1 := ad2) le2 (by
      have e12 : wipeE (wipeE e3 vs) vs = wipeE e3 vs := by
        apply List.ext_getElem?
        intro k
        by_cases hk : k ∈ vs
        · have key : ∀ (ee : Env), (wipeE ee vs)[k]? = if k < ee.length then some .emp else none := fun ee => by
            by_cases hl : k < ee.length
            · rw [if_pos hl]
              have := wipeE_in (e := ee) hk (List.getElem?_eq_getElem (by rw [wipeE_length]; exact hl))
              rw [List.getElem?_eq_getElem (by rw [wipeE_length]; exact hl), this]
            · rw [if_neg hl]
              exact List.getElem?_eq_none (by rw [wipeE_length]; omega)
          rw [key, key, wipeE_length]
        · rw [wipeE_out hk]
      rw [e12]
      exact sr2)
    have e12 : back1 e1 (wipeE (wipeE e3 vs) vs) vs = back1 e1 (wipeE (wipeE e3 vs) vs) vs := rfl
    refine .inl ⟨(hJ H (le2.trans sr2.sub) ds.length).2 rfl, q1 H F2 ad2 le2 su b [b] ⟨rfl, acc, hacc, racc⟩ fun a ha => ?_⟩
    rcases List.mem_cons.mp ha with z | z
    · subst z
      exact ⟨nf, n0, na⟩
    · cases z
theorem do_lc (hc : X.calm = true) (hN : X.N.Nodup) (hi : PI X tg iter (tI S W mi)) (ok : BlkOk X.N X.env.scope scope own)
    (hg : ∀ (s : Shared) (H : Hp) (C : Addr) (cl : List (Str × Addr)) (fp : List Addr) (G : Gr S), PG (X.blk s H scope (compEnvC scope cl C X.env) fp) tg (tG G.1 js f))
    (ht : ∀ (s : Shared) (H : Hp) (C : Addr) (cl : List (Str × Addr)) (fp : List Addr) (G : Gr S), PTs (X.blk s H scope (compEnvC scope cl C X.env) fp) ifs (tT G.1 W0 tt))
    (he : ∀ (s : Shared) (H : Hp) (C : Addr) (cl : List (Str × Addr)) (fp : List Addr) (G : Gr S), PE (X.blk s H scope (compEnvC scope cl C X.env) fp) elt (tD G.1 W0 te))
    (hj : ∀ j ∈ js, j ∈ own.map (·.2) := by decide) (hs : ∀ x, foldedSetIterable iter X.env x = pure x := by intro _; rfl) : PE X (.ListComp elt [⟨tg, iter, ifs, 0⟩] scope pos) (tO S W (oLc (own.map (·.2)) mi f tt te)) :=
  PE.imp (pe_lc hc hN hi ok (fun s H C cl fp => PG.all (hg s H C cl fp)) (fun s H C cl fp => PTs.all (ht s H C cl fp)) (fun s H C cl fp => PE.all (he s H C cl fp)) hs) fun σ H Q h => t_lc hj h
theorem t_own {m : M Own} {i : Nat} {d : Ends} {σ : L2.St} {H : Hp} (h : tS S W (sOwn m i) d σ H) : tO S W m σ H fun x H1 => gName i x σ H1 d.nx := by
  obtain ⟨F, env, ad, sr, p⟩ := h
  refine ⟨F, env, ad, sr, (Post.fl p).imp fun o e1 H1 F1 ad1 le1 sr1 q b fp oa hf => ?_⟩
  by_cases hl : i < e1.length
  · exact q _ H1 F1 _ (Le.refl F1) (sr1.put i (some (.ref b)) (.own o) fp rfl (fun _ => ⟨b, rfl, oa⟩) (fun z => absurd hl (by omega)) (fun j a _ ha => (hf a ha).2.2 j) fun a ha => ⟨(hf a ha).1, .inl (hf a ha).2.1⟩)
  · have e0 : e1.set i (.own o) = e1 := List.set_eq_of_length_le (by omega)
    have e2 : σ.set i (some (.ref b)) = σ := List.set_eq_of_length_le (by have := sr1.len; omega)
    rw [e0] at q
    show d.nx (σ.set i (some (V.ref b))) H1
    rw [e2]
    exact q σ H1 F1 ad1 (Le.refl F1) sr1
theorem ds_setLc {i : Nat} {y : Str} {py spos : Pos} (hc : X.calm = true) (hN : X.N.Nodup) (hy : X.N[i]? = some y) (hyl : X.env.scope.names.lookup y = some .local) (hsw : swapsWith (.ListComp elt [⟨tg, iter, ifs, 0⟩] scope pos) (some (.Name y py)) spos.line X.env = pure true)
    (hi : PI X tg iter (tI S W mi)) (ok : BlkOk X.N X.env.scope scope own)
    (hg : ∀ (s : Shared) (H : Hp) (C : Addr) (cl : List (Str × Addr)) (fp : List Addr) (G : Gr S), PG (X.blk s H scope (compEnvC scope cl C X.env) fp) tg (tG G.1 js f))
    (ht : ∀ (s : Shared) (H : Hp) (C : Addr) (cl : List (Str × Addr)) (fp : List Addr) (G : Gr S), PTs (X.blk s H scope (compEnvC scope cl C X.env) fp) ifs (tT G.1 W0 tt))
    (he : ∀ (s : Shared) (H : Hp) (C : Addr) (cl : List (Str × Addr)) (fp : List Addr) (G : Gr S), PE (X.blk s H scope (compEnvC scope cl C X.env) fp) elt (tD G.1 W0 te))
    (hj : ∀ j ∈ js, j ∈ own.map (·.2) := by decide) (hs : ∀ x, foldedSetIterable iter X.env x = pure x := by intro _; rfl) : PS X (.Assign [.Name y py] (.ListComp elt [⟨tg, iter, ifs, 0⟩] scope pos) spos) (tS S W (sOwn (oLc (own.map (·.2)) mi f tt te) i)) :=
  PS.imp (ps_setLc hc hN hy hyl hsw hi ok (fun s H C cl fp => PG.all (hg s H C cl fp)) (fun s H C cl fp => PTs.all (ht s H C cl fp)) (fun s H C cl fp => PE.all (he s H C cl fp)) hs) fun d σ H h => t_lc hj (t_own h)
end
end DL
set_option Elab.async false
set_option linter.all false
set_option maxRecDepth 100000
set_option maxHeartbeats 2000000
namespace DL
open PySem PySem.Spec PyProof.Rows L2
structure Xc (T : Tb) (mg : Str → Option Value) (c : Str) : Prop where
  ex : ∃ C, T.exc c = some C ∧ mg c = some (.ref C) ∧ PySem.W.excIn T.K C He.veBase "ValueError.__new__" = true ∧ PySem.W.keepIn T.K (.ref C) = true ∧ PySem.W.subIn T.K (.ref C) (.type "BaseException") = some true ∧ PySem.W.typeIn T.K (.ref C) = some (.type "type")
section
variable {X : Cx} {S : Gd} {W : WX} {e a b o : Expr} {es : List Expr} {pos p p2 apos cpos : Pos} {m mk : M D} {l : M (List D)} {i : Nat}
def sRaise (c : Str) : Env → Fl := fun env => .exc c env
theorem ds_raise {c z : Str} {j : Nat} {p3 : Pos} (xc : Xc S.T X.mg c) (hc : X.calm = true) (tk : L2N.Takes X W) (hK : X.K = S.T.K := by rfl) (hg : Gl X c := by rfl) (hdb : (c == ("__debug__" : Str)) = false := by decide) :
    PS X (.Raise (some (.Call (.Name c p) [.Constant (.str z) j p2] [] p3)) none pos) (tS S W (sRaise c)) := by
  obtain ⟨C, h1, h2, h3, h4, h5, h6⟩ := xc.ex
  rw [← hK] at h3 h4 h5 h6
  exact PS.imp (L2N.ps_raise hc tk (L2N.pmk_own PySem.F.excBase_ValueError h3 h2 h4 (raises_own h5 h6) hg hdb)) fun d σ H ⟨F, env, ad, sr, q⟩ => q C σ H F ad h1 (Le.refl F) sr
def appO (d : D) : Own → Option Own
  | .ol xs => if xs.length < 1000000 then some (.ol (xs ++ [d])) else none
  | _ => none
def isOl : Slot → Bool
  | .own (.ol _) | .lent (.ol _) => true
  | _ => false
def modS (env : Env) (i : Nat) (f : Own → Option Own) : Option Env := (env[i]?).bind fun s => s.ow.bind fun o => (f o).map fun o' => env.set i (s.re o')
def eApp (i : Nat) (m : M D) : M D := fun env => match env[i]? with
  | some s => if isOl s = true then (m env).bind fun d e => (lift (modS e i (appO d)) e).bind fun e2 _ => .ok .non e2 else .bad
  | none => .bad
theorem isOl_at {T : Tb} {F H : Hp} {x : Option (Option V)} {s : DL.Slot} {fp : List Addr} (h : isOl s = true) (q : SlotAt T F H x s fp) : ∃ p vs, x = some (some (.ref p)) ∧ H p = some (.lst vs) := by
  cases s with
  | emp => cases h
  | dat _ => cases h
  | own o =>
    cases o with
    | ol xs => obtain ⟨p, e, _, vs, h1, _⟩ := q; exact ⟨p, vs, e, h1⟩
    | od _ => cases h
    | oz => cases h
    | oll _ => cases h
    | ot _ _ => cases h
    | oi _ _ => cases h
  | lent o =>
    cases o with
    | ol xs => obtain ⟨p, e, _, vs, h1, _⟩ := q; exact ⟨p, vs, e, h1⟩
    | od _ => cases h
    | oz => cases h
    | oll _ => cases h
    | ot _ _ => cases h
    | oi _ _ => cases h
theorem size1m {n : Nat} (h : n < 1000000) : n < sizeLine := by rw [sizeLine_eq]; omega
theorem de_app (ho : PE X o (tVar i)) (he : PE X e (tD S W m)) (hK : X.K = S.T.K := by rfl) (hbase : attributeBase o "append" X.env (eval o X.env) = eval o X.env := by rfl)
    (hs : starEach [e] X.env = (false, eval e X.env) :: starEach [] X.env := by rfl)
    (hfew : ((backTo cpos (starEach [e] X.env)).all (fun x => !x.1) && (backToKw cpos (keywordEach [] X.env)).all (fun x => x.1.isSome)
      && decide ([e].length + ([] : List Keyword).length + (if ([] : List Keyword).isEmpty then 0 else 1) < 30)) = true := by rfl)
    (hline : (apos.endLine == cpos.line) = true := by rfl) (hplain : (backTo cpos (starEach [] X.env)).any (·.1) = false := by rfl) :
    PE X (.Call (.Attribute o "append" apos) [e] [] cpos) (tD S W (eApp i m)) :=
  PE.imp (pe_bm PySem.F.plainAttrs_list PySem.F.slot_list_append PySem.F.type_list_append mt_append ho (pa_cons he pa_nil hs) hbase hfew hline hs hplain) fun σ H Q ⟨F, env, ad, sr, p⟩ => by
    unfold eApp at p
    cases q : env[i]? with
    | none => rw [q] at p; exact p.elim
    | some s =>
      rw [q] at p
      simp only at p
      by_cases hO : isOl s = true
      case neg => rw [if_neg hO] at p; exact p.elim
      rw [if_pos hO] at p
      obtain ⟨b, vs, e1, h1⟩ := isOl_at hO (sr.at_ i _ q)
      refine ⟨_, e1, .inl ⟨rfl, vs, .of h1⟩, F, env, ad, sr, p.bind.imp fun d e2 H1 F1 ad1 le1 sr1 q1 v r => ?_⟩
      obtain ⟨e3, q2, q3⟩ := Post.lift (Post.bind q1.2)
      unfold modS at q2
      obtain ⟨s1, x1, x2⟩ := Option.bind_eq_some_iff.mp q2
      obtain ⟨o1, x3, x4⟩ := Option.bind_eq_some_iff.mp x2
      obtain ⟨o2, x5, x6⟩ := Option.map_eq_some_iff.mp x4
      obtain ⟨b', y1, y2⟩ := SlotAt.ow (sr1.at_ i _ x1) x3
      rw [e1] at y1
      cases y1
      cases o1 with
      | ol xs =>
        have x7 : (if xs.length < 1000000 then some (Own.ol (xs ++ [d])) else none) = some o2 := x5
        split at x7
        · rename_i hl
          cases x7
          obtain ⟨z1, ws, z2, z3⟩ := y2
          refine ⟨_, ws, v, rfl, rfl, z2, by rw [z3.length]; exact size1m hl, ?_⟩
          have sr2 : SR S σ (upd H1 b (.lst (ws ++ [v]))) F1 (e2.set i (s1.re (.ol (xs ++ [d])))) ad1 := by
            refine sr1.mut x1 e1 (fun a ha => upd_ne fun z => ha (by rw [z1, z]; exact List.mem_cons_self ..)) (fun a ha => ?_) ⟨z1, _, upd_same, z3.append (.one r)⟩
            by_cases z : a = b
            · rw [z, upd_same] at ha; cases ha
            · rw [upd_ne z] at ha; exact ha
          have q4 := q3 H1 F1 ad1 (Le.refl F1) sr1
          rw [← x6] at q4
          exact q4.2 _ F1 ad1 (Le.refl F1) sr2 _ .non
        · cases x7
      | od _ => cases x5
      | oz => cases x5
      | oll _ => cases x5
      | ot _ _ => cases x5
      | oi _ _ => cases x5
def setO (k : Int) (d : D) : Own → Option Own
  | .ol xs => (ixN xs.length k).map fun j => .ol (xs.set j d)
  | _ => none
def sSetI (i : Nat) (mk m : M D) : Env → Fl := fun env => (m env).fl fun d e1 => match e1[i]? with
  | some s => if isOl s = true then (mk e1).fl fun kk e2 => (match kk with
    | .int k => (match modS e2 i (setO k d) with
      | some e3 => .nx e3
      | none => .bad)
    | _ => .bad) else .bad
  | none => .bad
theorem ds_seti {pos' : Pos} (ho : PE X o (tVar i)) (hk : PE X a (tD S W mk)) (he : PE X e (tD S W m)) (hs : swapsWithSole [.Subscript o a pos'] e pos.line X.env = pure false := by rfl) (hw : swappedStores [.Subscript o a pos'] e X.env = pure none := by rfl)
    (h1 : (assignEach [.Subscript o a pos'] X.env).map (·.2) = [assign (.Subscript o a pos') X.env] := by rfl)
    (ha : ∀ v, assign (.Subscript o a pos') X.env v = (do
      let ov ← holding [v] (eval o X.env)
      let iv ← holding [v, ov] (eval a X.env)
      standAt pos'
      holding [v, ov, iv] (setItem ov iv v)
      release [v, ov, iv] []) := by intro _; rfl) : PS X (.Assign [.Subscript o a pos'] e pos) (tS S W (sSetI i mk m)) :=
  PS.imp (ps_asg he (pg_sub ho hk set_list ha) hs hw h1) fun d σ H ⟨F, env, ad, sr, p⟩ => ⟨F, env, ad, sr, (Post.fl p).imp fun x e1 H1 F1 ad1 le1 sr1 q v r => by
    cases q0 : e1[i]? with
    | none => rw [q0] at q; exact q.elim
    | some s =>
      rw [q0] at q
      simp only at q
      by_cases hO : isOl s = true
      case neg => rw [if_neg hO] at q; exact q.elim
      rw [if_pos hO] at q
      obtain ⟨b, vs, y0, _⟩ := isOl_at hO (sr1.at_ i _ q0)
      refine ⟨_, y0, F1, e1, ad1, sr1, (Post.fl q).imp fun kk e2 H2 F2 ad2 le2 sr2 q2 u ru => ?_⟩
      cases ru with
      | int k =>
        simp only at q2
        cases q3 : modS e2 i (setO k x) with
        | none => rw [q3] at q2; exact q2.elim
        | some e3 =>
          rw [q3] at q2
          unfold modS at q3
          obtain ⟨s1, x1, x2⟩ := Option.bind_eq_some_iff.mp q3
          obtain ⟨o1, x3, x4⟩ := Option.bind_eq_some_iff.mp x2
          obtain ⟨o2, x5, x6⟩ := Option.map_eq_some_iff.mp x4
          obtain ⟨b', y1, y2⟩ := SlotAt.ow (sr2.at_ i _ x1) x3
          rw [y0] at y1
          cases y1
          cases o1 with
          | ol xs =>
            obtain ⟨j, x7, x8⟩ := Option.map_eq_some_iff.mp (show (ixN xs.length k).map (fun j => Own.ol (xs.set j x)) = some o2 from x5)
            obtain ⟨z1, ws, z2, z3⟩ := y2
            refine ⟨_, ws, k, j, rfl, rfl, z2, by rw [z3.length]; exact x7, ?_⟩
            have sr3 : SR S σ (upd H2 b (.lst (ws.set j v))) F2 (e2.set i (s1.re (.ol (xs.set j x)))) ad2 := by
              refine sr2.mut x1 y0 (fun a ha => upd_ne fun z => ha (by rw [z1, z]; exact List.mem_cons_self ..)) (fun a ha => ?_) ⟨z1, _, upd_same, RpAll.set (r.mono le2) j z3⟩
              by_cases z : a = b
              · rw [z, upd_same] at ha; cases ha
              · rw [upd_ne z] at ha; exact ha
            rw [x8, x6] at sr3
            exact q2 σ _ F2 ad2 (Le.refl F2) sr3
          | od _ => cases x5
          | oz => cases x5
          | oll _ => cases x5
          | ot _ _ => cases x5
          | oi _ _ => cases x5
      | non => exact q2.elim
      | bl _ => exact q2.elim
      | str _ => exact q2.elim
      | lst _ _ => exact q2.elim
      | tup _ _ => exact q2.elim
      | ins _ _ _ _ => exact q2.elim
      | scr _ => exact q2.elim
      | exc _ _ => exact q2.elim
      | dct _ _ _ _ => exact q2.elim
      | wd _ => exact q2.elim
      | raw _ => exact q2.elim⟩
end
section
variable {X : Cx} {T : Tb} {H0 F0 : Hp} {OA : List Addr} {V0 : L2.St} {E : XK} {e : Expr} {es : List Expr} {pos p : Pos} {i n k : Nat} {φ : Fn} {c : Str} {l : M AL}
def mkR (c : Str) : FRes → Env → Res Own
  | .rt .non (.lent (.oi c' fs) :: _), e => if c' = c then .ok (.oi c fs) e else .bad
  | .exc x _, e => .exc x e
  | _, _ => .bad
def oMake (c : Str) (n : Nat) (φ : Fn) (l : M AL) : M Own := fun env => (l env).bind fun as e => if as.length + 1 = n ∧ as.all Option.isSome = true then (match slotsX none as with
  | some ss => mkR c (φ (.lent (.oi c []) :: ss)) e
  | none => .bad) else .bad
theorem do_make (C : CalC X.prog X.w T X.mg X.base k c n φ) (hr : Room (k + 1) X.A) (tk : L2N.Takes X (wOf E)) (ha : PA X (e :: es) (tX ⟨T, H0, F0, OA, V0⟩ (wOf E) i l)) (hK : X.K = T.K := by rfl) (hg : Gl X c := by rfl) (hdb : (c == ("__debug__" : Str)) = false := by decide)
    (he : starEach (e :: es) X.env = (false, eval e X.env) :: starEach es X.env := by exact star_ok _ _ _ rfl) (hpl : (backTo pos (starEach es X.env)).any (·.1) = false := by rfl) : PE X (.Call (.Name c p) (e :: es) [] pos) (tO ⟨T, H0, F0, OA, V0⟩ (wOf E) (oMake c n φ l)) := by
  obtain ⟨A, f, fd, ps, h0, h1, h2, h3, h4⟩ := C.ex
  rw [← hK] at h2 h3 h4
  refine PE.imp (pe_make h2 h3 hr hg h1 h4 .nil (L2N.passes_call tk fun _ _ _ _ z => z) ha hdb he hpl) fun σ H Q ⟨F, env, ad, sr, p⟩ => ⟨F, env, ad, sr, p.bind.imp fun as e1 H1 F1 ad1 le1 sr1 q vs ra => ?_⟩
  have q1 := q.2
  by_cases hn : as.length + 1 = n ∧ as.all Option.isSome = true
  case neg => rw [if_neg hn] at q1; exact q1.elim
  rw [if_pos hn] at q1
  intro x dx hx hdx ne
  rw [List.append_nil]
  cases q2 : slotsX none as with
  | none => rw [q2] at q1; exact q1.elim
  | some ss =>
    rw [q2] at q1
    simp only at q1
    obtain ⟨g1, g2, g3⟩ := slotsX_get q2
    have hlv := ra.length
    -- the heap with the new instance
    have sr2 : SR ⟨T, H0, F0, OA, V0⟩ σ (upd (upd H1 dx (.own x)) x (.ins A dx [])) F1 e1 ad1 := (sr1.more (o := .own x) hdx).more (o := .ins A dx []) (by rw [upd_ne fun z => ne z.symm]; exact hx)
    have hdx2 : (upd (upd H1 dx (.own x)) x (.ins A dx [])) dx = some (.own x) := by rw [upd_ne ne, upd_same]
    let adc : Nat → List Addr := fun j => if j = 0 then [x, dx] else []
    have hfr : ∀ a ∈ [x, dx], F1 a = none ∧ H0 a = none ∧ ∀ j, a ∉ ad1 j := fun a ha => by
      rcases List.mem_cons.mp ha with z | z
      · subst z
        exact ⟨sr1.fnone hx, sr1.dom a hx, fun j hj => sr1.somes hj hx⟩
      · rcases List.mem_cons.mp z with z | z
        · subst z
          exact ⟨sr1.fnone hdx, sr1.dom a hdx, fun j hj => sr1.somes hj hdx⟩
        · cases z
    have sc : SR (gd T (upd (upd H1 dx (.own x)) x (.ins A dx [])) F1 [x, dx] (.ref x :: vs)) ((V.ref x :: vs).map some) (upd (upd H1 dx (.own x)) x (.ins A dx [])) F1 (.lent (.oi c []) :: ss) adc := by
      refine sr2.enter (by simp [g1, hlv]) (fun j s ej => ?_) (fun j hj => ?_) (fun a b d hd hb => ?_) (fun j a ha => ?_)
      · cases j with
        | zero =>
          simp at ej
          subst ej
          exact ⟨x, rfl, A, dx, [], [], h0, rfl, upd_same, hdx2, rfl, List.nodup_nil⟩
        | succ j =>
          simp at ej
          show SlotAt T F1 _ _ s []
          rcases g2 j s ej with ⟨d, y1, y2⟩ | ⟨y, y1, y2, y3⟩
          · subst y2
            obtain ⟨v, v1, v2⟩ := ra.get y1
            refine ⟨rfl, v, ?_, v2⟩
            rw [List.map_cons, List.getElem?_cons_succ, List.getElem?_map, v1]
            rfl
          · cases y2
      · have hj2 : j ≠ 0 := fun z => by rw [z] at hj; simp at hj
        exact if_neg hj2
      · have h5 : a = 0 := Decidable.byContradiction fun z => by rw [show adc a = [] from if_neg z] at hd; cases hd
        have h6 : b = 0 := Decidable.byContradiction fun z => by rw [show adc b = [] from if_neg z] at hb; cases hb
        rw [h5, h6]
      · have h5 : j = 0 := Decidable.byContradiction fun z => by rw [show adc j = [] from if_neg z] at ha; cases ha
        subst h5
        exact ⟨(hfr a ha).1, ha⟩
    refine ⟨F1, _, adc, [x, dx], by simp; omega, sc, by rw [List.all_cons, slotsX_handed q2]; rfl, ?_⟩
    have hOA : ∀ a ∈ [x, dx], (∀ j, j ≠ e1.length → a ∉ ad1 j) ∧ F1 a = none ∧ (H0 a = none ∨ a ∈ OA) := fun a ha => ⟨fun j _ => (hfr a ha).2.2 j, (hfr a ha).1, .inl (hfr a ha).2.1⟩
    have bk : ∀ {τ : L2.St} {H' F' : Hp} {ss' : Env} {ad' : Nat → List Addr}, SR (gd T (upd (upd H1 dx (.own x)) x (.ins A dx [])) F1 [x, dx] (.ref x :: vs)) τ H' F' ss' ad' → SR ⟨T, H0, F0, OA, V0⟩ σ H' F' e1 (setA ad1 e1.length []) := fun {τ H' F' ss' ad'} c => by
      have lv := sr2.leave c e1.length hOA
      rwa [List.set_eq_of_length_le (Nat.le_refl _)] at lv
    cases q3 : φ (.lent (.oi c []) :: ss) with
    | bad => rw [q3] at q1; exact q1.elim
    | exc cc as' =>
      rw [q3] at q1
      intro CC H' F' ad' hc le sc'
      exact q1 CC H' F' _ hc le (bk sc')
    | rt d as' =>
      rw [q3] at q1
      intro v H' F' ad' le sc' rv
      unfold mkR at q1
      split at q1
      · rename_i fs r4 e9
        cases e9
        split at q1
        · rename_i hcc
          subst hcc
          cases rv
          refine ⟨rfl, ?_⟩
          obtain ⟨b, w1, w2⟩ := sc'.at_ 0 _ rfl
          have eb : b = x := by
            have w3 : some (some (V.ref x)) = some (some (V.ref b)) := w1
            cases w3
            rfl
          subst eb
          refine q1 H' F' _ le (bk sc') b (ad' 0) w2 fun a ha => ?_
          have hm := sc'.mine 0 a ha
          have hd : H0 a = none ∧ ∀ j, a ∉ ad1 j := by
            rcases hm.2 with z | z
            · have z1 : (upd (upd H1 dx (.own b)) b (.ins A dx [])) a = none := z
              exact ⟨sr2.dom a z1, fun j hj => sr2.somes hj z1⟩
            · exact (hfr a z).2
          refine ⟨hm.1, hd.1, fun j hj => ?_⟩
          unfold setA at hj
          split at hj
          · cases hj
          · exact hd.2 j hj
        · exact q1.elim
      · rename_i e9
        cases e9
      · exact q1.elim
end
end DL
set_option Elab.async false
set_option linter.all false
set_option maxRecDepth 100000
set_option maxHeartbeats 2000000
namespace DL
open PySem PySem.Spec PyProof.Rows L2
section
variable {T : Tb} {F H H' : Hp}
theorem FldAt.heap : ∀ {us : List (Str × V)} {fs : List (Str × FS)} {qs : List Addr}, (∀ a ∈ qs, H' a = H a) → FldAt T F H us fs qs → FldAt T F H' us fs qs := fun {us fs qs} k h => h.mono (Le.refl F) k
theorem FldAt.len : ∀ {us : List (Str × V)} {fs : List (Str × FS)} {qs : List Addr}, FldAt T F H us fs qs → us.length = fs.length
  | [], [], _, _ => rfl
  | [], _ :: _, _, h => h.elim
  | _ :: _, [], _, h => h.elim
  | (x, w) :: us, (y, z) :: fs, qs, h => by
    cases z with
    | d d' => simp [FldAt.len h.2.2]
    | l ds =>
      obtain ⟨_, q, qs1, vs, _, _, _, _, k4⟩ := h
      simp [FldAt.len k4]
    | t ks xs =>
      obtain ⟨_, q, qs1, _, _, _, k4⟩ := h
      simp [FldAt.len k4]
end
section
variable {X : Cx} {S : Gd} {W : WX} {e e2 tg : Expr} {elts : List Expr} {kk : Nat} {pos p tpos : Pos} {m : M D} {l : M (List D)}
def charsD (z : Str) : List D := z.cps.toList.map fun c => .str ⟨#[c]⟩
theorem it_str {T : Tb} {F : Hp} (z : Str) : ItD T F (Its z) (charsD z) := fun H le i => by
  refine ⟨fun d e => ?_, fun hl => ?_⟩
  · unfold charsD at e
    rw [List.getElem?_map] at e
    obtain ⟨c, e1, e2⟩ := Option.map_eq_some_iff.mp e
    have e3 : z.cps[i]? = some c := by rw [← Array.getElem?_toList]; exact e1
    refine ⟨(Array.getElem?_eq_some_iff.mp e3).1, fun x H' hy => .inl ⟨hy.1, ?_⟩⟩
    obtain ⟨c', y1, y2⟩ := hy.2
    rw [e3] at y1
    cases y1
    rw [y2, ← e2]
    exact .str _
  · unfold charsD at hl
    rw [List.length_map, Array.length_toList] at hl
    exact Nat.le_of_eq hl.symm
def iStr (m : M D) : M (List D) := fun env => (m env).bind fun d e => match d with
  | .str z => .ok (charsD z) e
  | _ => .bad
theorem di_str (h : PE X e (tD S W m)) : PI X tg e (tI S W (iStr m)) :=
  PI.imp (pi_str h) fun σ H R ⟨F, env, ad, sr, p⟩ => ⟨F, env, ad, sr, p.bind.imp fun d e1 H1 F1 ad1 le1 sr1 q v r => by
    have q2 := q.2
    cases r with
    | str z => exact ⟨z, rfl, q2 H1 F1 ad1 (Le.refl F1) sr1 _ (it_str z)⟩
    | non => exact q2.elim
    | bl _ => exact q2.elim
    | int _ => exact q2.elim
    | lst _ _ => exact q2.elim
    | tup _ _ => exact q2.elim
    | ins _ _ _ _ => exact q2.elim
    | scr _ => exact q2.elim
    | exc _ _ => exact q2.elim
    | dct _ _ _ _ => exact q2.elim
    | wd _ => exact q2.elim
    | raw _ => exact q2.elim⟩
end
end DL
set_option Elab.async false
set_option linter.all false
set_option maxRecDepth 100000
set_option maxHeartbeats 2000000
namespace DLZ
open PySem
open PySem.Sem (wp)
theorem Draws.tuple {prog : Program} {w : World} {A : Around} (hh : A.handled = none) (it l : Addr) (hne : l ≠ it) (items : Array Value) :
    Draws prog w A it [it, l] items.size (fun i v => items[i]? = some v) (fun i h => h.IsTupleIter it l i ∧ h.IsTuple l items) where
  live := fun _ _ st => let ⟨o, ho, _⟩ := st.1; ⟨o, ho⟩
  frame := fun _ _ _ st hk => ⟨st.1.at fun o e => hk it (by simp) o e, let ⟨o, ho, r⟩ := st.2; ⟨o, hk l (by simp) o ho, r⟩⟩
  item := fun i s Q E hi st hQ => by
    refine RZ.nextOf_tuple_item st.1 st.2 (x := items[i]) (by simp [hi]) fun h' hit' hs' => ?_
    exact hQ _ h' s.toks (by simp [hi]) ⟨hit', st.2.extBut hs'.extBut hne⟩ hs'
  done := fun s Q E st hE => RZ.nextOf_tuple_end hh st.1 st.2 (by simp) hE
section
variable {prog : Program} {w : World} {A : Around} {E : Value → Shared → Prop} {s : Shared}
structure Apart (z TI TO i1 i2 : Addr) (fp1 fp2 : List Addr) : Prop where
  TIz : TI ≠ z
  TOz : TO ≠ z
  i1z : i1 ≠ z
  i2z : i2 ≠ z
  TITO : TI ≠ TO
  TIi1 : TI ≠ i1
  TIi2 : TI ≠ i2
  TOi1 : TO ≠ i1
  TOi2 : TO ≠ i2
  i12 : i1 ≠ i2
  z1 : z ∉ fp1
  z2 : z ∉ fp2
  T1 : TO ∉ fp1
  T2 : TO ∉ fp2
  i21 : i2 ∉ fp1
  i1f : i1 ∉ fp2
theorem zipG_next_item {z TI TO i1 i2 : Addr} {fp1 fp2 : List Addr} {n1 n2 k : Nat} {P1 P2 : Nat → Value → Prop} {S1 S2 : Nat → Heap → Prop} {a b : Value} {Q : Value → Shared → Prop} (D : Apart z TI TO i1 i2 fp1 fp2)
    (D1 : Draws prog w A i1 fp1 n1 P1 S1) (D2 : Draws prog w A i2 fp2 n2 P2 S2)
    (hz : IsZip s.heap z TI TO .none) (hTI : IsPair s.heap TI (.ref i1) (.ref i2)) (hTO : IsPair s.heap TO a b) (h1 : S1 k s.heap) (h2 : S2 k s.heap) (hx : k < n1) (hy : k < n2)
    (hQ : ∀ x y h' tk, P1 k x → P2 k y → IsZip h' z TI TO (rawInt s.heap.objs.size) → IsPair h' TO x y → S1 (k + 1) h' → S2 (k + 1) h' → IsPair h' s.heap.objs.size x y → h'.objs.size = s.heap.objs.size + 1 →
      (∀ c o, c ≠ z → c ≠ TO → c ≠ i1 → c ≠ i2 → s.heap.get? c = some o → h'.get? c = some o) → Q (.ref s.heap.objs.size) { s with heap := h', toks := tk }) :
    wpAny (model prog w) A (Builtin.«zip.__next__» ⟨[.ref z], []⟩) (fun fin s' => ∃ v, fin = .done (.ret v) ∧ Q v s') E s := by
  show wpAny _ _ (field (.ref z) 2 >>= _) _ _ _
  refine wpAny_bind (wpAny_field hz rfl (x := .bool false) rfl ?_)
  show wpAny _ _ (field (.ref z) 3 >>= _) _ _ _
  refine wpAny_bind (wpAny_field hz rfl (x := .ref TI) rfl ?_)
  refine wpAny_bind (wpAny_seqItems hTI rfl ?_)
  show wpAny _ _ (Builtin.SmallTypes.ownedTupleIsFree (.ref z) >>= _) _ _ _
  refine wpAny_bind ?_
  unfold Builtin.SmallTypes.ownedTupleIsFree
  refine wpAny_bind (wpAny_field hz rfl (x := .none) rfl (wpAny_pure ?_))
  simp only [if_true]
  refine wpAny_bind (wpAny_rule ?_)
  refine wpAny_bind (wpAny_field hz rfl (x := .ref TO) rfl ?_)
  refine wpAny_bind (wpAny_setField_rec hz (by simp) fun h₁ hz₁ hs₁ => ?_)
  replace hz₁ : IsZip h₁ z TI TO .ellipsis := hz₁
  refine wpAny_bind ?_
  simp only [List.zipIdx_cons, List.zipIdx_nil, List.forIn_cons, List.forIn_nil]
  refine wpAny_bind (wpAny_bind (wpAny_onRaise ?_))
  show wpAny _ _ (Builtin.SmallTypes.nextOf (.ref i1) >>= _) _ _ _
  refine wpAny_bind (D1.item k _ _ _ hx (D1.frame _ _ _ h1 fun c hc o e => hs₁.extBut _ _ (fun q => D.z1 (q ▸ hc)) e) fun x h₂ tk1 px h1₂ hs₂ => wpAny_pure ?_)
  replace hs₂ : Heap.SameBut i1 h₁ h₂ := hs₂
  have hTO₂ : IsPair h₂ TO a b := hs₂.extBut _ _ D.TOi1 (hs₁.extBut _ _ D.TOz hTO)
  refine wpAny_bind (wpAny_seqItems hTO₂ rfl ?_)
  refine wpAny_bind (wpAny_updateSeq_pair hTO₂ fun h₃ hTO₃ hs₃ => ?_)
  replace hTO₃ : IsPair h₃ TO x b := hTO₃
  replace hs₃ : Heap.SameBut TO h₂ h₃ := hs₃
  refine wpAny_bind (wpAny_letGo (wpAny_pure ?_))
  refine wpAny_bind (wpAny_bind (wpAny_onRaise ?_))
  show wpAny _ _ (Builtin.SmallTypes.nextOf (.ref i2) >>= _) _ _ _
  refine wpAny_bind (D2.item k _ _ _ hy (D2.frame _ _ _ h2 fun c hc o e => hs₃.extBut _ _ (fun q => D.T2 (q ▸ hc)) (hs₂.extBut _ _ (fun q => D.i1f (q ▸ hc)) (hs₁.extBut _ _ (fun q => D.z2 (q ▸ hc)) e))) fun y h₄ tk2 py h2₄ hs₄ => wpAny_pure ?_)
  replace hs₄ : Heap.SameBut i2 h₃ h₄ := hs₄
  have hTO₄ : IsPair h₄ TO x b := hs₄.extBut _ _ D.TOi2 hTO₃
  refine wpAny_bind (wpAny_seqItems hTO₄ rfl ?_)
  refine wpAny_bind (wpAny_updateSeq_pair hTO₄ fun h₅ hTO₅ hs₅ => ?_)
  replace hTO₅ : IsPair h₅ TO x y := hTO₅
  replace hs₅ : Heap.SameBut TO h₄ h₅ := hs₅
  refine wpAny_bind (wpAny_letGo (wpAny_pure (wpAny_pure ?_)))
  refine wpAny_bind (wpAny_seqItems hTO₅ rfl ?_)
  refine wpAny_bind (wpAny_newTuple ?_)
  have hsz : h₅.objs.size = s.heap.objs.size := by rw [hs₅.1, hs₄.1, hs₃.1, hs₂.1, hs₁.1]
  have hz₅ : IsZip h₅ z TI TO .ellipsis := hs₅.extBut _ _ D.TOz.symm (hs₄.extBut _ _ D.i2z.symm (hs₃.extBut _ _ D.TOz.symm (hs₂.extBut _ _ D.i1z.symm hz₁)))
  have hk₅ : ∀ c o, c ≠ z → c ≠ TO → c ≠ i1 → c ≠ i2 → s.heap.get? c = some o → h₅.get? c = some o := fun c o c1 c2 c3 c4 e =>
    hs₅.extBut _ _ c2 (hs₄.extBut _ _ c4 (hs₃.extBut _ _ c2 (hs₂.extBut _ _ c3 (hs₁.extBut _ _ c1 e))))
  have h1₅ : S1 (k + 1) h₅ := D1.frame _ _ _ h1₂ fun c hc o e => hs₅.extBut _ _ (fun q => D.T1 (q ▸ hc)) (hs₄.extBut _ _ (fun q => D.i21 (q ▸ hc)) (hs₃.extBut _ _ (fun q => D.T1 (q ▸ hc)) e))
  have h2₅ : S2 (k + 1) h₅ := D2.frame _ _ _ h2₄ fun c hc o e => hs₅.extBut _ _ (fun q => D.T2 (q ▸ hc)) e
  have hzlt : z < h₅.objs.size := Heap.lt_size hz₅
  have hTOlt : TO < h₅.objs.size := Heap.lt_size hTO₅
  show wpAny _ _ (Builtin.SmallTypes.ownedTupleHandOut (.ref z) (.ref h₅.objs.size) >>= _) _ _ _
  refine wpAny_bind ?_
  unfold Builtin.SmallTypes.ownedTupleHandOut
  have hz₆ : IsZip (h₅.push { cls := .type "tuple", data := .seq #[x, y] }) z TI TO .ellipsis := Heap.get?_push_of_some _ hz₅
  refine wpAny_bind (wpAny_setField_rec hz₆ (by simp) fun h₇ hz₇ hs₇ => ?_)
  replace hz₇ : IsZip h₇ z TI TO (rawInt h₅.objs.size) := hz₇
  refine wpAny_setField_rec hz₇ (by simp) fun h₈ hz₈ hs₈ => ?_
  replace hz₈ : IsZip h₈ z TI TO (rawInt h₅.objs.size) := hz₈
  have up : ∀ c o, c ≠ z → h₅.get? c = some o → h₈.get? c = some o := fun c o c1 e => hs₈.extBut _ _ c1 (hs₇.extBut _ _ c1 (Heap.get?_push_of_some _ e))
  have hT₈ : IsPair h₈ h₅.objs.size x y := hs₈.extBut _ _ (Nat.ne_of_gt hzlt) (hs₇.extBut _ _ (Nat.ne_of_gt hzlt) (Heap.get?_push_size _ rfl))
  have hz8 : h₈.objs.size = h₅.objs.size + 1 := by rw [hs₈.1, hs₇.1, Heap.size_push]
  rw [hsz] at hz₈ hT₈ hz8
  refine wpAny_pure ⟨_, rfl, ?_⟩
  show Q (.ref h₅.objs.size) _
  rw [hsz]
  exact hQ x y h₈ _ px py hz₈ (up _ _ D.TOz hTO₅) (D1.frame _ _ _ h1₅ fun c hc o e => up c o (fun q => D.z1 (q ▸ hc)) e) (D2.frame _ _ _ h2₅ fun c hc o e => up c o (fun q => D.z2 (q ▸ hc)) e) hT₈ hz8 fun c o c1 c2 c3 c4 e => up c o c1 (hk₅ c o c1 c2 c3 c4 e)
theorem zipG_next_end {z TI TO i1 i2 : Addr} {fp1 fp2 : List Addr} {n1 n2 k : Nat} {P1 P2 : Nat → Value → Prop} {S1 S2 : Nat → Heap → Prop} {a b : Value} {Q : Fin → Shared → Prop} (D : Apart z TI TO i1 i2 fp1 fp2)
    (D1 : Draws prog w A i1 fp1 n1 P1 S1) (D2 : Draws prog w A i2 fp2 n2 P2 S2)
    (hz : IsZip s.heap z TI TO .none) (hTI : IsPair s.heap TI (.ref i1) (.ref i2)) (hTO : IsPair s.heap TO a b) (h1 : S1 k s.heap) (h2 : S2 k s.heap) (hend : k = n1 ∨ (k < n1 ∧ k = n2))
    (hE : ∀ h' e tk, (∀ c o, c ≠ z → c ≠ TO → c ≠ i1 → c ≠ i2 → s.heap.get? c = some o → h'.get? c = some o) → (∃ o, h'.get? e = some o ∧ o.cls = .type "StopIteration") → E (.ref e) { s with heap := h', toks := tk }) :
    wpAny (model prog w) A (Builtin.«zip.__next__» ⟨[.ref z], []⟩) Q E s := by
  show wpAny _ _ (field (.ref z) 2 >>= _) _ _ _
  refine wpAny_bind (wpAny_field hz rfl (x := .bool false) rfl ?_)
  show wpAny _ _ (field (.ref z) 3 >>= _) _ _ _
  refine wpAny_bind (wpAny_field hz rfl (x := .ref TI) rfl ?_)
  refine wpAny_bind (wpAny_seqItems hTI rfl ?_)
  show wpAny _ _ (Builtin.SmallTypes.ownedTupleIsFree (.ref z) >>= _) _ _ _
  refine wpAny_bind ?_
  unfold Builtin.SmallTypes.ownedTupleIsFree
  refine wpAny_bind (wpAny_field hz rfl (x := .none) rfl (wpAny_pure ?_))
  simp only [if_true]
  refine wpAny_bind (wpAny_rule ?_)
  refine wpAny_bind (wpAny_field hz rfl (x := .ref TO) rfl ?_)
  refine wpAny_bind (wpAny_setField_rec hz (by simp) fun h₁ hz₁ hs₁ => ?_)
  replace hz₁ : IsZip h₁ z TI TO .ellipsis := hz₁
  refine wpAny_bind ?_
  simp only [List.zipIdx_cons, List.zipIdx_nil, List.forIn_cons, List.forIn_nil]
  refine wpAny_bind (wpAny_bind (wpAny_onRaise ?_))
  show wpAny _ _ (Builtin.SmallTypes.nextOf (.ref i1) >>= _) _ _ _
  have f1 : S1 k h₁ := D1.frame _ _ _ h1 fun c hc o e => hs₁.extBut _ _ (fun q => D.z1 (q ▸ hc)) e
  rcases hend with hk | ⟨hk, hk2⟩
  · subst hk
    refine wpAny_bind (D1.done _ _ _ f1 fun h₂ e hs₂ he => ?_)
    obtain ⟨oe, hoe, hce⟩ := he
    replace hs₂ : Heap.ExtBut i1 h₁ h₂ := hs₂
    have hz₂ : IsZip h₂ z TI TO .ellipsis := hs₂ _ _ D.i1z.symm hz₁
    have hez : e ≠ z := fun x => by subst x; rw [hz₂] at hoe; cases hoe; simp at hce
    refine wpAny_setField_rec hz₂ (by simp) fun h₃ _ hs₃ => hE h₃ e _ (fun c o c1 _ c3 _ x => hs₃.extBut _ _ c1 (hs₂ _ _ c3 (hs₁.extBut _ _ c1 x))) ⟨oe, hs₃.extBut _ _ hez hoe, hce⟩
  · subst hk2
    refine wpAny_bind (D1.item k _ _ _ hk f1 fun x h₂ tk1 px h1₂ hs₂ => wpAny_pure ?_)
    replace hs₂ : Heap.SameBut i1 h₁ h₂ := hs₂
    have hTO₂ : IsPair h₂ TO a b := hs₂.extBut _ _ D.TOi1 (hs₁.extBut _ _ D.TOz hTO)
    refine wpAny_bind (wpAny_seqItems hTO₂ rfl ?_)
    refine wpAny_bind (wpAny_updateSeq_pair hTO₂ fun h₃ hTO₃ hs₃ => ?_)
    replace hs₃ : Heap.SameBut TO h₂ h₃ := hs₃
    refine wpAny_bind (wpAny_letGo (wpAny_pure ?_))
    refine wpAny_bind (wpAny_bind (wpAny_onRaise ?_))
    show wpAny _ _ (Builtin.SmallTypes.nextOf (.ref i2) >>= _) _ _ _
    refine wpAny_bind (D2.done _ _ _ (D2.frame _ _ _ h2 fun c hc o e => hs₃.extBut _ _ (fun q => D.T2 (q ▸ hc)) (hs₂.extBut _ _ (fun q => D.i1f (q ▸ hc)) (hs₁.extBut _ _ (fun q => D.z2 (q ▸ hc)) e))) fun h₄ e hs₄ he => ?_)
    obtain ⟨oe, hoe, hce⟩ := he
    replace hs₄ : Heap.ExtBut i2 h₃ h₄ := hs₄
    have hz₄ : IsZip h₄ z TI TO .ellipsis := hs₄ _ _ D.i2z.symm (hs₃.extBut _ _ D.TOz.symm (hs₂.extBut _ _ D.i1z.symm hz₁))
    have hez : e ≠ z := fun x => by subst x; rw [hz₄] at hoe; cases hoe; simp at hce
    refine wpAny_setField_rec hz₄ (by simp) fun h₅ _ hs₅ => hE h₅ e _ (fun c o c1 c2 c3 c4 x => hs₅.extBut _ _ c1 (hs₄ _ _ c4 (hs₃.extBut _ _ c2 (hs₂.extBut _ _ c3 (hs₁.extBut _ _ c1 x))))) ⟨oe, hs₅.extBut _ _ hez hoe, hce⟩
theorem pyNext_zipG_item {z TI TO i1 i2 : Addr} {fp1 fp2 : List Addr} {n1 n2 k : Nat} {P1 P2 : Nat → Value → Prop} {S1 S2 : Nat → Heap → Prop} {a b : Value} {Q : Option Value → Shared → Prop} (D : Apart z TI TO i1 i2 fp1 fp2)
    (D1 : Draws prog w A.in1 i1 fp1 n1 P1 S1) (D2 : Draws prog w A.in1 i2 fp2 n2 P2 S2)
    (hz : IsZip s.heap z TI TO .none) (hTI : IsPair s.heap TI (.ref i1) (.ref i2)) (hTO : IsPair s.heap TO a b) (h1 : S1 k s.heap) (h2 : S2 k s.heap) (hx : k < n1) (hy : k < n2)
    (hQ : ∀ x y h' tk, P1 k x → P2 k y → IsZip h' z TI TO (rawInt s.heap.objs.size) → IsPair h' TO x y → S1 (k + 1) h' → S2 (k + 1) h' → IsPair h' s.heap.objs.size x y → h'.objs.size = s.heap.objs.size + 1 →
      (∀ c o, c ≠ z → c ≠ TO → c ≠ i1 → c ≠ i2 → s.heap.get? c = some o → h'.get? c = some o) → Q (some (.ref s.heap.objs.size)) { s with heap := h', toks := tk }) :
    wpAny (model prog w) A (pyNext (.ref z)) Q E s := by
  have hT : s.TypeIs (.ref z) "zip" := ⟨_, hz, rfl⟩
  unfold pyNext
  exact wpAny_bind (wpAny_attempt (wpAny_callSpecial?_slot (name := Str.ofString "__next__") hT F.slot_zip_next
    (wpAny_call_entry F.slot_zip_next hT F.entry_zip_next
      (zipG_next_item D D1 D2 hz hTI hTO h1 h2 hx hy fun x y h' tk a0 b0 a1 a2 a3 a4 a5 a6 a7 => wpAny_pure (hQ x y h' tk a0 b0 a1 a2 a3 a4 a5 a6 a7)) (F.args_zip_next_1 _))))
theorem pyNext_zipG_end {z TI TO i1 i2 : Addr} {fp1 fp2 : List Addr} {n1 n2 k : Nat} {P1 P2 : Nat → Value → Prop} {S1 S2 : Nat → Heap → Prop} {a b : Value} {Q : Option Value → Shared → Prop} (D : Apart z TI TO i1 i2 fp1 fp2)
    (D1 : Draws prog w A.in1 i1 fp1 n1 P1 S1) (D2 : Draws prog w A.in1 i2 fp2 n2 P2 S2)
    (hz : IsZip s.heap z TI TO .none) (hTI : IsPair s.heap TI (.ref i1) (.ref i2)) (hTO : IsPair s.heap TO a b) (h1 : S1 k s.heap) (h2 : S2 k s.heap) (hend : k = n1 ∨ (k < n1 ∧ k = n2))
    (hQ : ∀ h' tk, (∀ c o, c ≠ z → c ≠ TO → c ≠ i1 → c ≠ i2 → s.heap.get? c = some o → h'.get? c = some o) → Q none { s with heap := h', toks := tk }) : wpAny (model prog w) A (pyNext (.ref z)) Q E s := by
  have hT : s.TypeIs (.ref z) "zip" := ⟨_, hz, rfl⟩
  unfold pyNext
  refine wpAny_bind (wpAny_attempt (wpAny_callSpecial?_slot (name := Str.ofString "__next__") hT F.slot_zip_next
    (wpAny_call_entry F.slot_zip_next hT F.entry_zip_next (zipG_next_end D D1 D2 hz hTI hTO h1 h2 hend fun h' e tk hk he => ?_) (F.args_zip_next_1 _))))
  obtain ⟨o, ho, hc⟩ := he
  refine wpAny_bind (wpAny_isInstance (T := "StopIteration") (b := true) ⟨o, ho, hc⟩ isSubtype_stop ?_)
  exact wpAny_pure (hQ _ _ hk)
end
abbrev gH1 (h : Heap) (o1 : Obj) : Heap := h.push o1
abbrev gH2 (h : Heap) (o1 o2 : Obj) : Heap := (gH1 h o1).push o2
abbrev gH3 (h : Heap) (o1 o2 : Obj) : Heap := (gH2 h o1 o2).push { cls := .type "tuple", data := .seq #[.ref h.objs.size, .ref (gH1 h o1).objs.size] }
abbrev gH4 (h : Heap) (o1 o2 : Obj) : Heap := (gH3 h o1 o2).push { cls := .type "tuple", data := .seq #[.none, .none] }
abbrev gH5 (h : Heap) (o1 o2 : Obj) : Heap := (gH4 h o1 o2).push { cls := .type "zip", data := .fields #[.none, .bool false, .bool false, .ref (gH2 h o1 o2).objs.size, .ref (gH3 h o1 o2).objs.size] }
def Iters (v : Value) (C : Heap → Prop) (o : Obj) : Prop := ∀ (prog : Program) (w : World) (A : Around) (E : Value → Shared → Prop) (s : Shared) (Q : Value → Shared → Prop), C s.heap → Q (.ref s.heap.objs.size) { s with heap := s.heap.push o } → wpAny (model prog w) A (pyIter v) Q E s
theorem meets_zipG_new {v1 v2 : Value} {C1 C2 : Heap → Prop} {o1 o2 : Obj} (h1 : Iters v1 C1 o1) (h2 : Iters v2 C2 o2) (hp2 : ∀ h : Heap, C2 h → C2 (h.push o1)) :
    Meets (Builtin.«zip.__new__» ⟨[.type "zip", v1, v2], []⟩) (fun _ R s => C1 s.heap ∧ C2 s.heap ∧ R (.ok (.ret (.ref (gH4 s.heap o1 o2).objs.size))) { s with heap := gH5 s.heap o1 o2 }) :=
  .of_wp fun prog w A R s h => by
    obtain ⟨hp, g, d, tk, os⟩ := s; obtain ⟨hl1, hl2, h⟩ := h
    have hsub := sub_zip
    have hL1 : C1 (Shared.heap ⟨hp, g, d, tk, os⟩) := hl1
    have hL2 : C2 (Shared.heap ⟨hp.push o1, g, d, tk, os⟩) := hp2 _ hl2
    have i1 := fun (A : Around) (E : Value → Shared → Prop) (Q : Value → Shared → Prop) => h1 prog w A E ⟨hp, g, d, tk, os⟩ Q hL1
    have i2 := fun (A : Around) (E : Value → Shared → Prop) (Q : Value → Shared → Prop) => h2 prog w A E ⟨hp.push o1, g, d, tk, os⟩ Q hL2
    wp_walk using i1 _ _ _, i2 _ _ _
    exact ⟨_, rfl, h⟩
section
variable {prog : Program} {w : World} {A : Around} {E : Value → Shared → Prop} {s : Shared}
theorem call_zipG {v1 v2 : Value} {C1 C2 : Heap → Prop} {o1 o2 : Obj} {Q : Value → Shared → Prop} (i1 : Iters v1 C1 o1) (i2 : Iters v2 C2 o2) (hp2 : ∀ h : Heap, C2 h → C2 (h.push o1)) (hl1 : C1 s.heap) (hl2 : C2 s.heap) (hf1 : o1.isFreed = false) (hf2 : o2.isFreed = false)
    (h : ∀ h', IsZip h' (s.heap.objs.size + 4) (s.heap.objs.size + 2) (s.heap.objs.size + 3) .none → IsPair h' (s.heap.objs.size + 2) (.ref s.heap.objs.size) (.ref (s.heap.objs.size + 1)) →
      IsPair h' (s.heap.objs.size + 3) .none .none → h'.get? s.heap.objs.size = some o1 → h'.get? (s.heap.objs.size + 1) = some o2 → h'.objs.size = s.heap.objs.size + 5 →
      (∀ c o, s.heap.get? c = some o → h'.get? c = some o) → Q (.ref (s.heap.objs.size + 4)) { s with heap := h' }) :
    wpAny (model prog w) A (call (.type "zip") [v1, v2]) Q E s := by
  refine callType_new F.called_zip (by decide) (F.typeCall_zip_2 _ _) (F.newCall_zip_2 _ _) (fun obj => F.args_object_init_3 obj _ _) F.entry_zip_new
    (meets_zipG_new i1 i2 hp2) ⟨hl1, hl2, ?_⟩
  have z1 : (gH1 s.heap o1).objs.size = s.heap.objs.size + 1 := Heap.size_push ..
  have z2 : (gH2 s.heap o1 o2).objs.size = s.heap.objs.size + 2 := by rw [Heap.size_push, z1]
  have z3 : (gH3 s.heap o1 o2).objs.size = s.heap.objs.size + 3 := by rw [Heap.size_push, z2]
  have z4 : (gH4 s.heap o1 o2).objs.size = s.heap.objs.size + 4 := by rw [Heap.size_push, z3]
  have z5 : (gH5 s.heap o1 o2).objs.size = s.heap.objs.size + 5 := by rw [Heap.size_push, z4]
  have g5 : (gH5 s.heap o1 o2).get? (gH4 s.heap o1 o2).objs.size = some _ := Heap.get?_push_size _ rfl
  have g4 : (gH5 s.heap o1 o2).get? (gH3 s.heap o1 o2).objs.size = some _ := Heap.get?_push_of_some _ (Heap.get?_push_size _ rfl)
  have g3 : (gH5 s.heap o1 o2).get? (gH2 s.heap o1 o2).objs.size = some _ := Heap.get?_push_of_some _ (Heap.get?_push_of_some _ (Heap.get?_push_size _ rfl))
  have g2 : (gH5 s.heap o1 o2).get? (gH1 s.heap o1).objs.size = some _ := Heap.get?_push_of_some _ (Heap.get?_push_of_some _ (Heap.get?_push_of_some _ (Heap.get?_push_size _ hf2)))
  have g1 : (gH5 s.heap o1 o2).get? s.heap.objs.size = some _ := Heap.get?_push_of_some _ (Heap.get?_push_of_some _ (Heap.get?_push_of_some _ (Heap.get?_push_of_some _ (Heap.get?_push_size _ hf1))))
  show _ ∧ _
  rw [z2, z3, z4] at g5
  rw [z1, z2] at g3
  rw [z3] at g4
  rw [z1] at g2
  rw [z4]
  exact ⟨⟨_, g5, rfl⟩, h _ g5 g3 g4 g1 g2 z5 fun c o x =>
    Heap.get?_push_of_some _ (Heap.get?_push_of_some _ (Heap.get?_push_of_some _ (Heap.get?_push_of_some _ (Heap.get?_push_of_some _ x))))⟩
end
theorem iters_list (l : Addr) (xs : Array Value) : Iters (.ref l) (fun h => h.IsList l xs) { cls := .type "list_iterator", data := .fields #[.ref l, .int 0 0] } := fun prog w A E s Q hl h => wpAny_pyIter_list hl h
theorem iters_tuple (l : Addr) (xs : Array Value) : Iters (.ref l) (fun h => h.IsTuple l xs) { cls := .type "tuple_iterator", data := .fields #[.ref l, .int 0 0] } := fun prog w A E s Q hl h => wpAny_pyIter_tuple hl h
theorem iters_str (x : Str) (t : Tok) : Iters (.str x t) (fun _ => True) { cls := .type (strIterType x), data := .fields #[.str x t, .int 0 0] } := fun prog w A E s Q _ h => wpAny_pyIter_strU h
end DLZ
set_option Elab.async false
set_option linter.all false
set_option maxRecDepth 100000
set_option maxHeartbeats 2000000
namespace DL
open PySem PySem.Spec PyProof.Rows L2 DLZ
inductive Src where
  | lst (a : Addr) | tup (a : Addr) | txt (z : Str)
namespace Src
def v : Src → V
  | .lst a => .ref a
  | .tup a => .ref a
  | .txt z => .str z
def ad : Src → List Addr
  | .lst a => [a]
  | .tup a => [a]
  | .txt _ => []
def At (K : PySem.W.Frag) (H : Hp) : Src → List V → Prop
  | .lst a, xs => SqL K H a xs
  | .tup a, xs => SqT K H a xs
  | .txt z, xs => xs = z.cps.toList.map fun c => V.str ⟨#[c]⟩
def Iter (it : Addr) (t : Tok) (i : Nat) (h : Heap) : Src → Prop
  | .lst a => h.IsListIter it a i
  | .tup a => h.IsTupleIter it a i
  | .txt z => h.IsStrIter it (strIterType z) z t i
def ob (t : Tok) : Src → Obj
  | .lst a => { cls := .type "list_iterator", data := .fields #[.ref a, .int 0 0] }
  | .tup a => { cls := .type "tuple_iterator", data := .fields #[.ref a, .int 0 0] }
  | .txt z => { cls := .type (strIterType z), data := .fields #[.str z t, .int 0 0] }
theorem first {it : Addr} {t : Tok} {h : Heap} : ∀ {S : Src}, h.get? it = some (S.ob t) → S.Iter it t 0 h
  | .lst _, e => ⟨_, e, rfl, rfl⟩
  | .tup _, e => ⟨_, e, rfl, rfl⟩
  | .txt _, e => ⟨_, e, rfl, rfl⟩
theorem obj {it : Addr} {t : Tok} {i : Nat} {h : Heap} : ∀ {S : Src}, S.Iter it t i h → ∃ o, h.get? it = some o ∧ ∀ v, o.data ≠ .cell v
  | .lst _, ⟨o, e, _, d⟩ => ⟨o, e, fun v q => by rw [d] at q; cases q⟩
  | .tup _, ⟨o, e, _, d⟩ => ⟨o, e, fun v q => by rw [d] at q; cases q⟩
  | .txt _, ⟨o, e, _, d⟩ => ⟨o, e, fun v q => by rw [d] at q; cases q⟩
theorem keep {it : Addr} {t : Tok} {i : Nat} {h h' : Heap} (k : ∀ o, h.get? it = some o → h'.get? it = some o) : ∀ {S : Src}, S.Iter it t i h → S.Iter it t i h'
  | .lst _, ⟨o, e, r⟩ => ⟨o, k o e, r⟩
  | .tup _, ⟨o, e, r⟩ => ⟨o, k o e, r⟩
  | .txt _, ⟨o, e, r⟩ => ⟨o, k o e, r⟩
section
variable {X : Cx} {pins : List (Addr × Obj)} {σ : L2.St} {H : Hp} {s : Shared} {xs ys : List V}
theorem inj (I : Inv X pins σ H s) : ∀ {S : Src}, S.At X.K H xs → S.At X.K H ys → xs = ys
  | .lst _, a, b => I.list_inj a b
  | .tup _, a, b => I.tuple_inj a b
  | .txt _, a, b => a.trans b.symm
theorem alive (I : Inv X pins σ H s) : ∀ {S : Src}, S.At X.K H xs → ∀ a ∈ S.ad, a < s.heap.objs.size
  | .lst a, q, b, hb => by
    obtain ⟨its, _, p, _⟩ := I.list q
    have e : b = a := by simpa [ad] using hb
    subst e
    exact p.lt
  | .tup a, q, b, hb => by
    obtain ⟨its, _, ⟨o, e1, _⟩, _⟩ := I.tuple q
    have e : b = a := by simpa [ad] using hb
    subst e
    exact Heap.lt_size e1
  | .txt z, q, b, hb => by simp [ad] at hb
theorem draws (hc : X.calm = true) (I : Inv X pins σ H s) (it : Addr) (t : Tok) : ∀ {S : Src}, S.At X.K H xs → it ∉ S.ad → ∃ (P : Nat → Value → Prop) (G : Nat → Heap → Prop), Draws X.prog X.w X.A.in1 it (it :: S.ad) xs.length P G ∧
    (∀ i, S.Iter it t i s.heap → G i s.heap) ∧ (∀ i h, G i h → S.Iter it t i h) ∧ ∀ k u, P k u → ∃ x, xs[k]? = some x ∧ RelV x u
  | .lst a, q, hn => by
    have hh : X.A.in1.handled = none := I.ok.hd hc
    obtain ⟨its, rv, p, _⟩ := I.list q
    have e := rv.length
    refine ⟨fun i v => its.toArray[i]? = some v, fun i h => h.IsListIter it a i ∧ h.IsList a its.toArray, by rw [e]; exact Draws.list hh it a (fun z => hn (by rw [ad, z]; simp)) its.toArray, fun i h => ⟨h, p.isList⟩, fun i h z => z.1, fun k u z => ?_⟩
    have z' : its[k]? = some u := by simpa using z
    have hk : k < xs.length := by rw [e]; exact (List.getElem?_eq_some_iff.mp z').1
    obtain ⟨u', e1, e2⟩ := rv.get (List.getElem?_eq_getElem hk)
    rw [z'] at e1
    cases e1
    exact ⟨_, List.getElem?_eq_getElem hk, e2⟩
  | .tup a, q, hn => by
    have hh : X.A.in1.handled = none := I.ok.hd hc
    obtain ⟨its, rv, p, _⟩ := I.tuple q
    have e := rv.length
    refine ⟨fun i v => its.toArray[i]? = some v, fun i h => h.IsTupleIter it a i ∧ h.IsTuple a its.toArray, by rw [e]; exact DLZ.Draws.tuple hh it a (fun z => hn (by rw [ad, z]; simp)) its.toArray, fun i h => ⟨h, p⟩, fun i h z => z.1, fun k u z => ?_⟩
    have z' : its[k]? = some u := by simpa using z
    have hk : k < xs.length := by rw [e]; exact (List.getElem?_eq_some_iff.mp z').1
    obtain ⟨u', e1, e2⟩ := rv.get (List.getElem?_eq_getElem hk)
    rw [z'] at e1
    cases e1
    exact ⟨_, List.getElem?_eq_getElem hk, e2⟩
  | .txt z, q, hn => by
    have hh : X.A.in1.handled = none := I.ok.hd hc
    have q : xs = z.cps.toList.map fun c => V.str ⟨#[c]⟩ := q
    have e : xs.length = z.cps.size := by rw [q]; simp
    have fin : ∀ k u, (∃ c t, z.cps[k]? = some c ∧ u = Value.str ⟨#[c]⟩ t) → ∃ x, xs[k]? = some x ∧ RelV x u := fun k u hu => by
      obtain ⟨c, t, e1, e2⟩ := hu
      refine ⟨.str ⟨#[c]⟩, ?_, ⟨t, e2⟩⟩
      rw [q, List.getElem?_map, Array.getElem?_toList, e1]
      rfl
    cases ha : z.cps.all (· < 128) with
    | true =>
      have et : strIterType z = "str_ascii_iterator" := by unfold strIterType; rw [ha]; rfl
      exact ⟨_, _, by rw [e]; exact Draws.strAscii hh it z t, fun i h => by have h : s.heap.IsStrIter it (strIterType z) z t i := h; rw [et] at h; exact h, fun i h g => by show h.IsStrIter it (strIterType z) z t i; rw [et]; exact g, fin⟩
    | false =>
      have et : strIterType z = "str_iterator" := by unfold strIterType; rw [ha]; rfl
      exact ⟨_, _, by rw [e]; exact Draws.strWide hh it z t, fun i h => by have h : s.heap.IsStrIter it (strIterType z) z t i := h; rw [et] at h; exact h, fun i h g => by show h.IsStrIter it (strIterType z) z t i; rw [et]; exact g, fin⟩
theorem iters (I : Inv X pins σ H s) {u : Value} : ∀ {S : Src}, S.At X.K H xs → RelV S.v u → ∃ (t : Tok) (C : Heap → Prop), Iters u C (S.ob t) ∧ C s.heap ∧ ∀ (h : Heap) (o : Obj), C h → C (h.push o)
  | .lst a, q, r => by
    obtain rfl : u = Value.ref a := r
    obtain ⟨its, rv, p, _⟩ := I.list q
    exact ⟨0, _, iters_list a its.toArray, p.isList, fun h o z => z.at fun _ e => Heap.get?_push_of_some _ e⟩
  | .tup a, q, r => by
    obtain rfl : u = Value.ref a := r
    obtain ⟨its, rv, p, _⟩ := I.tuple q
    exact ⟨0, _, iters_tuple a its.toArray, p, fun h o ⟨x, e, d⟩ => ⟨x, Heap.get?_push_of_some _ e, d⟩⟩
  | .txt z, q, r => by
    obtain ⟨t, rfl⟩ : ∃ t, u = Value.str z t := r
    exact ⟨t, _, iters_str z t, trivial, fun _ _ _ => trivial⟩
end
theorem ob_live {t : Tok} : ∀ {S : Src}, (S.ob t).isFreed = false
  | .lst _ => rfl
  | .tup _ => rfl
  | .txt _ => rfl
end Src
def ItZ (K : PySem.W.Frag) (a b : Src) : It :=
  ⟨fun i H => ∃ (xs ys : List V) (x y : V), a.At K H xs ∧ b.At K H ys ∧ xs[i]? = some x ∧ ys[i]? = some y,
    fun i H v H' => ∃ T x y, v = .ref T ∧ H T = none ∧ H' = upd H T (.tup [x, y]) ∧ (∀ xs, a.At K H xs → xs[i]? = some x) ∧ ∀ ys, b.At K H ys → ys[i]? = some y,
    fun i H => ∃ xs ys : List V, a.At K H xs ∧ b.At K H ys ∧ (i = xs.length ∨ (i < xs.length ∧ i = ys.length))⟩
theorem turn_zipS {P : Program} {w : World} {K : PySem.W.Frag} {elts : List Expr} {kk : Nat} {tpos : Pos} {a b : Src} {t1 t2 : Tok} {z TI TO i1 i2 : Addr} (D : Apart z TI TO i1 i2 (i1 :: a.ad) (i2 :: b.ad)) (n1 : i1 ∉ a.ad) (n2 : i2 ∉ b.ad) :
    Turn P w K (.Tuple elts kk tpos) (ItZ K a b) [z, TI, TO, i1, i2] z (fun i h => IsZip h z TI TO .none ∧ IsPair h TI (.ref i1) (.ref i2) ∧ (∃ x y, IsPair h TO x y) ∧ a.Iter i1 t1 i h ∧ b.Iter i2 t2 i h) where
  mem := by simp
  obj := fun i h st c hc => by
    obtain ⟨hz, hTI, ⟨x, y, hTO⟩, s1, s2⟩ := st
    have e' : c = z ∨ c = TI ∨ c = TO ∨ c = i1 ∨ c = i2 := by simpa using hc
    rcases e' with q | q | q | q | q
    · subst q; exact ⟨_, hz, fun v q => nomatch q⟩
    · subst q; exact ⟨_, hTI, fun v q => nomatch q⟩
    · subst q; exact ⟨_, hTO, fun v q => nomatch q⟩
    · subst q; exact Src.obj s1
    · subst q; exact Src.obj s2
  keep := fun i h h' st k => by
    obtain ⟨hz, hTI, ⟨x, y, hTO⟩, s1, s2⟩ := st
    exact ⟨k z (by simp) _ hz, k TI (by simp) _ hTI, ⟨x, y, k TO (by simp) _ hTO⟩, Src.keep (k i1 (by simp)) s1, Src.keep (k i2 (by simp)) s2⟩
  item := by
    intro X hP hw hK hc i pins s σ H E I hf st hg
    subst hP hw hK
    obtain ⟨hz, hTI, ⟨x0, y0, hTO⟩, s1, s2⟩ := st
    obtain ⟨xs, ys, x, y, hqx, hqy, hx, hy⟩ := hg
    obtain ⟨P1, G1, D1, g1, k1, r1⟩ := Src.draws hc I i1 t1 hqx n1
    obtain ⟨P2, G2, D2, g2, k2, r2⟩ := Src.draws hc I i2 t2 hqy n2
    have zl : z < s.heap.objs.size := Heap.lt_size hz
    refine pyNext_zipG_item D D1 D2 hz hTI hTO (g1 i s1) (g2 i s2) (List.getElem?_eq_some_iff.mp hx).1 (List.getElem?_eq_some_iff.mp hy).1 fun u u2 h' tk p1 p2 z' TO' f1 f2 hT hsz hk => ?_
    refine ⟨_, rfl, wpAny_letOwnedTupleGo_zip (s := { s with heap := h', toks := tk }) z' fun h'' z'' sb => ?_⟩
    obtain ⟨x', ex, rx⟩ := r1 i u p1
    obtain ⟨y', ey, ry⟩ := r2 i u2 p2
    rw [hx] at ex
    rw [hy] at ey
    cases ex
    cases ey
    have hT2 : h''.get? s.heap.objs.size = some { cls := .type "tuple", data := .seq #[u, u2] } := (sb.2 _ (Nat.ne_of_gt zl)).trans hT
    have new : ObjOk X.prog X.w (upd H s.heap.objs.size (.tup [x, y])) h'' s.heap.objs.size (.tup [x, y]) :=
      ⟨by show 2 ≤ sizeLine; decide, [u, u2], .cons rx (.cons ry .nil), ⟨_, hT2, rfl, _, rfl⟩⟩
    have I1 : Inv X pins σ (upd H s.heap.objs.size (.tup [x, y])) { s with heap := h'', toks := tk } := by
      refine I.turnedNew (t' := tk) (ch := [z, TI, TO, i1, i2]) (fun c o hb q => ?_) hf (Nat.le_refl _) new
      have nb : c ≠ z ∧ c ≠ TI ∧ c ≠ TO ∧ c ≠ i1 ∧ c ≠ i2 := by simpa using hb
      exact (sb.2 c nb.1).trans (hk c o nb.1 nb.2.2.1 nb.2.2.2.1 nb.2.2.2.2 q)
    refine ⟨.ref s.heap.objs.size, _, I1, rfl, ⟨_, x, y, rfl, I.hok.fresh (Nat.le_refl _), rfl, fun l hl => by rw [Src.inj I hl hqx]; exact hx, fun l hl => by rw [Src.inj I hl hqy]; exact hy⟩, ⟨z'', ?_, ⟨u, u2, ?_⟩, ?_, ?_⟩, fun c hcm => ?_⟩
    · exact (sb.2 _ D.TIz).trans (hk _ _ D.TIz D.TITO D.TIi1 D.TIi2 hTI)
    · exact (sb.2 _ D.TOz).trans TO'
    · exact Src.keep (fun o q => (sb.2 _ D.i1z).trans q) (k1 _ _ f1)
    · exact Src.keep (fun o q => (sb.2 _ D.i2z).trans q) (k2 _ _ f2)
    · have hlt : c < s.heap.objs.size := by
        have e' : c = z ∨ c = TI ∨ c = TO ∨ c = i1 ∨ c = i2 := by simpa using hcm
        rcases e' with q | q | q | q | q
        · subst q; exact zl
        · subst q; exact Heap.lt_size hTI
        · subst q; exact Heap.lt_size hTO
        · subst q; obtain ⟨_, e1, _⟩ := Src.obj s1; exact Heap.lt_size e1
        · subst q; obtain ⟨_, e1, _⟩ := Src.obj s2; exact Heap.lt_size e1
      rw [upd_ne (Nat.ne_of_lt hlt)]
      exact (hf c hcm).1
  done := by
    intro X hP hw hK hc i pins s σ H E I hf st hg
    subst hP hw hK
    obtain ⟨hz, hTI, ⟨x0, y0, hTO⟩, s1, s2⟩ := st
    obtain ⟨xs, ys, hqx, hqy, hend⟩ := hg
    obtain ⟨P1, G1, D1, g1, k1, r1⟩ := Src.draws hc I i1 t1 hqx n1
    obtain ⟨P2, G2, D2, g2, k2, r2⟩ := Src.draws hc I i2 t2 hqy n2
    refine pyNext_zipG_end D D1 D2 hz hTI hTO (g1 i s1) (g2 i s2) hend fun h' tk hk => ⟨rfl, I.turnedL (t' := tk) (ch := [z, TI, TO, i1, i2]) (fun c o hb q => ?_) hf⟩
    have nb : c ≠ z ∧ c ≠ TI ∧ c ≠ TO ∧ c ≠ i1 ∧ c ≠ i2 := by simpa using hb
    exact hk c o nb.1 nb.2.2.1 nb.2.2.2.1 nb.2.2.2.2 q
  self := fun A i s Q E st h => wpAny_pyIter_zip st.1 h
theorem out_of {l : List Addr} {n m k : Nat} (h : ∀ c ∈ l, c < n) (h1 : m ≠ k) (h2 : n ≤ m) : (show Addr from m) ∉ (show Addr from k) :: l := fun q => by
  rcases List.mem_cons.mp q with z | z
  · exact h1 z
  · exact Nat.lt_irrefl _ (Nat.lt_of_lt_of_le (h _ z) h2)
theorem apart_new {a b : Src} {n : Nat} (ha : ∀ c ∈ a.ad, c < n) (hb : ∀ c ∈ b.ad, c < n) : Apart (n + 4) (n + 2) (n + 3) n (n + 1) (n :: a.ad) ((n + 1) :: b.ad) where
  TIz := show (n + 2 : Nat) ≠ n + 4 by omega
  TOz := show (n + 3 : Nat) ≠ n + 4 by omega
  i1z := show (n : Nat) ≠ n + 4 by omega
  i2z := show (n + 1 : Nat) ≠ n + 4 by omega
  TITO := show (n + 2 : Nat) ≠ n + 3 by omega
  TIi1 := show (n + 2 : Nat) ≠ n by omega
  TIi2 := show (n + 2 : Nat) ≠ n + 1 by omega
  TOi1 := show (n + 3 : Nat) ≠ n by omega
  TOi2 := show (n + 3 : Nat) ≠ n + 1 by omega
  i12 := show (n : Nat) ≠ n + 1 by omega
  z1 := out_of ha (by omega) (by omega)
  z2 := out_of hb (by omega) (by omega)
  T1 := out_of ha (by omega) (by omega)
  T2 := out_of hb (by omega) (by omega)
  i21 := out_of ha (by omega) (by omega)
  i1f := out_of hb (by omega) (by omega)
def iZipS (K : PySem.W.Frag) (ta : TA) : TI := fun σ H R => ta σ H fun vs H1 => ∃ (a b : Src) (xs ys : List V), vs = [a.v, b.v] ∧ a.At K H1 xs ∧ b.At K H1 ys ∧ R (ItZ K a b) H1
theorem pi_zipS {X : Cx} {e e2 : Expr} {ta : TA} {p pos tpos : Pos} {elts : List Expr} {kk : Nat} (hg : Gl X "zip") (hm : X.mg "zip" = none) (ha : PA X [e, e2] ta)
    (hs : starEach [e, e2] X.env = (false, eval e X.env) :: starEach [e2] X.env := by rfl) (hpl : (backTo pos (starEach [e2] X.env)).any (·.1) = false := by rfl) :
    PI X (.Tuple elts kk tpos) (.Call (.Name "zip" p) [e, e2] [] pos) (iZipS X.K ta) := by
  refine ⟨fun pins s σ H R I h => ?_⟩
  refine Call_ (ld_blt I hg hm PyProof.Rows.boot_zip (PyProof.Rows.callWith_type1 (thn (ha.run pos pins s σ H _ I h) fun us s1 ⟨vs, H1, I1, r1, q1⟩ => ?_) hs hpl))
  obtain ⟨a, b, xs, ys, ex, hqx, hqy, q⟩ := q1
  subst ex
  cases r1 with
  | cons ra rr =>
    cases rr with
    | cons rb rr =>
      cases rr
      obtain ⟨t1, C1, w1, c1, _⟩ := Src.iters I1 hqx ra
      obtain ⟨t2, C2, w2, c2, m2⟩ := Src.iters I1 hqy rb
      have la := Src.alive I1 hqx
      have lb := Src.alive I1 hqy
      refine call_zipG w1 w2 (fun h z => m2 h _ z) c1 c2 Src.ob_live Src.ob_live fun h' hz hTI hTO g1 g2 hsz hk => wpAny_pyIter_zip hz ?_
      have I2 : Inv X pins σ H1 { s1 with heap := h' } := I1.kept (t' := s1.toks) hk
      refine ⟨s1.heap.objs.size + 4, [s1.heap.objs.size + 4, s1.heap.objs.size + 2, s1.heap.objs.size + 3, s1.heap.objs.size, s1.heap.objs.size + 1], _, _, H1, rfl, I2, turn_zipS (t1 := t1) (t2 := t2) (apart_new la lb) (fun z => Nat.lt_irrefl _ (la _ z)) (fun z => Nat.lt_irrefl _ (Nat.lt_of_le_of_lt (Nat.le_succ _) (lb _ z))), ⟨hz, hTI, ⟨_, _, hTO⟩, Src.first g1, Src.first g2⟩, fun c hcm => ?_, q⟩
      have hle : s1.heap.objs.size ≤ c := by
        have e' : c = s1.heap.objs.size + 4 ∨ c = s1.heap.objs.size + 2 ∨ c = s1.heap.objs.size + 3 ∨ c = s1.heap.objs.size ∨ c = s1.heap.objs.size + 1 := by simpa using hcm
        rcases e' with z | z | z | z | z <;> rw [z]
        · exact Nat.le_add_right _ _
        · exact Nat.le_add_right _ _
        · exact Nat.le_add_right _ _
        · exact Nat.le_refl _
        · exact Nat.le_add_right _ _
      exact I1.fpOk hle (I1.hok.fresh hle)
def seqD : D → Option (List D)
  | .lst ds => some ds
  | .tup ds => some ds
  | .str z => some (charsD z)
  | _ => none
theorem seq_src {T : Tb} {F : Hp} {v : V} {d : D} {ds : List D} (h : Rp T F v d) (e : seqD d = some ds) : ∃ (a : Src) (vs : List V), a.v = v ∧ (∀ H, Le F H → a.At T.K H vs) ∧ RpAll T F vs ds := by
  cases h with
  | lst h1 h2 =>
    cases e
    exact ⟨.lst _, _, rfl, fun H le => SqL.of (le _ _ h1), h2⟩
  | tup h1 h2 =>
    cases e
    exact ⟨.tup _, _, rfl, fun H le => le.t h1, h2⟩
  | str z =>
    cases e
    refine ⟨.txt z, _, rfl, fun H le => rfl, ?_⟩
    unfold charsD
    generalize z.cps.toList = l
    induction l with
    | nil => exact .nil
    | cons c r ih => exact .cons (.str _) ih
  | _ => cases e
def zipD : List D → List D → List D
  | x :: r, y :: s => .tup [x, y] :: zipD r s
  | _, _ => []
theorem zipD_get : ∀ (xs ys : List D) (i : Nat) (d : D), (zipD xs ys)[i]? = some d → ∃ x y, xs[i]? = some x ∧ ys[i]? = some y ∧ d = .tup [x, y]
  | [], _, _, _, e => by simp [zipD] at e
  | _ :: _, [], _, _, e => by simp [zipD] at e
  | x :: r, y :: s, 0, d, e => by
    have e2 : some (D.tup [x, y]) = some d := e
    cases e2
    exact ⟨x, y, rfl, rfl, rfl⟩
  | x :: r, y :: s, i + 1, d, e => zipD_get r s i d e
theorem zipD_length : ∀ (xs ys : List D), (zipD xs ys).length = xs.length ∨ ((zipD xs ys).length < xs.length ∧ (zipD xs ys).length = ys.length)
  | [], _ => .inl (by simp [zipD])
  | _ :: _, [] => .inr ⟨by simp [zipD], by simp [zipD]⟩
  | x :: r, y :: s => by
    rcases zipD_length r s with h | ⟨h1, h2⟩
    · exact .inl (by simp [zipD, h])
    · exact .inr ⟨by simp [zipD]; omega, by simp [zipD]; omega⟩
theorem it_zip {T : Tb} {F : Hp} {a b : Src} {vs us : List V} {xs ys : List D} (ha : ∀ H, Le F H → a.At T.K H vs) (hb : ∀ H, Le F H → b.At T.K H us) (r1 : RpAll T F vs xs) (r2 : RpAll T F us ys) : ItD T F (ItZ T.K a b) (zipD xs ys) := fun H le i => by
  refine ⟨fun d e => ?_, fun hl => ⟨vs, us, ha H le, hb H le, ?_⟩⟩
  · obtain ⟨x, y, e1, e2, e3⟩ := zipD_get xs ys i d e
    obtain ⟨v1, v2, v3⟩ := r1.get e1
    obtain ⟨u1, u2, u3⟩ := r2.get e2
    refine ⟨⟨vs, us, v1, u1, ha H le, hb H le, v2, u2⟩, fun p H' hy => .inr ?_⟩
    obtain ⟨t, x', y', z1, z2, z3, z4, z5⟩ := hy
    have z6 := z4 vs (ha H le)
    have z7 := z5 us (hb H le)
    rw [v2] at z6
    rw [u2] at z7
    cases z6
    cases z7
    exact ⟨t, _, _, z2, z3, z1, e3, .cons v3 (.one u3)⟩
  · rw [r1.length, r2.length, hl]
    exact zipD_length xs ys
def iZp (l : M (List D)) : M (List D) := fun env => (l env).bind fun ds e => match ds with
  | [a, b] => (match seqD a, seqD b with
    | some xs, some ys => .ok (zipD xs ys) e
    | _, _ => .bad)
  | _ => .bad
section
variable {X : Cx} {S : Gd} {W : WX} {e e2 : Expr} {elts : List Expr} {kk : Nat} {pos p tpos : Pos} {l : M (List D)}
theorem di_zip (hg : Gl X "zip") (hm : X.mg "zip" = none) (ha : PA X [e, e2] (tL S W l)) (hK : X.K = S.T.K := by rfl)
    (hs : starEach [e, e2] X.env = (false, eval e X.env) :: starEach [e2] X.env := by rfl) (hpl : (backTo pos (starEach [e2] X.env)).any (·.1) = false := by rfl) :
    PI X (.Tuple elts kk tpos) (.Call (.Name "zip" p) [e, e2] [] pos) (tI S W (iZp l)) :=
  PI.imp (pi_zipS hg hm ha hs hpl) fun σ H R ⟨F, env, ad, sr, p⟩ => ⟨F, env, ad, sr, p.bind.imp fun ds e1 H1 F1 ad1 le1 sr1 q vs rs => by
    rw [hK]
    have q2 := q.2
    split at q2
    · rename_i a b
      cases rs with
      | cons h t =>
        cases t with
        | cons h2 t2 =>
          cases t2
          split at q2
          · rename_i xs ys ea eb
            obtain ⟨A, us, z1, z2, z3⟩ := seq_src h ea
            obtain ⟨B, us2, y1, y2, y3⟩ := seq_src h2 eb
            exact ⟨A, B, us, us2, by rw [z1, y1], z2 H1 sr1.sub, y2 H1 sr1.sub, q2 H1 F1 ad1 (Le.refl F1) sr1 _ (it_zip z2 y2 z3 y3)⟩
          · exact q2.elim
    · exact q2.elim⟩
end
end DL
set_option Elab.async false
set_option linter.all false
set_option maxRecDepth 100000
set_option maxHeartbeats 2000000
namespace DL
open PySem PySem.Spec PyProof.Rows L2 L2H HotX
theorem list_end_hot {prog : Program} {w : World} {A : Around} {E : Value → Shared → Prop} {s : Shared} {it l x1 : Addr} {i : Nat} {items : Array Value} {Q : Option Value → Shared → Prop} (hot : HotAt A x1 s.heap)
    (hit : s.heap.IsListIter it l i) (hl : s.heap.IsList l items) (hx : items[i]? = none) (hQ : ∀ h', Heap.ExtBut it s.heap h' → Q none { s with heap := h' }) : wpAny (model prog w) A (pyNext (.ref it)) Q E s := by
  obtain ⟨o, ho, hc, hd⟩ := id hit
  obtain ⟨ol, hol, _, nl, hdl⟩ := hl
  obtain ⟨hh, o1, vs1, h1, d1, c1⟩ := hot
  have hne : x1 ≠ it := fun z => by
    rw [z, ho] at h1
    cases h1
    rw [hd] at d1
    cases d1
    simp at c1
  unfold pyNext
  refine wpAny_bind (wpAny_attempt (wpAny_callSpecial?_slot (name := Str.ofString "__next__") hit.typeIs slot_listiter_next (wpAny_call_entry slot_listiter_next hit.typeIs entry_listiter_next ?_ (args_listiter_next _))))
  show wpAny _ _ (field (.ref it) 0 >>= _) _ _ s
  refine wpAny_bind (wpAny_field ho hd (x := .ref l) rfl ?_)
  show wpAny _ _ (if (Value.ref l == Value.none) = true then _ else _) _ _ s
  rw [if_neg (show ¬ ((Value.ref l == Value.none) = true) from Bool.false_ne_true)]
  show wpAny _ _ (field (.ref it) 1 >>= _) _ _ s
  refine wpAny_bind (wpAny_field ho hd (x := .int i 0) rfl ?_)
  show wpAny _ _ (seqItems? (.ref l) >>= _) _ _ s
  refine wpAny_bind (wpAny_seqItems hol hdl ?_)
  simp only [Int.toNat_natCast, hx]
  refine wpAny_bind (wpAny_rule (wpAny_bind (wpAny_setField ho hd (by simp) ?_)))
  show wpAny _ _ (newExc (.type "StopIteration") [] >>= _) _ _ _
  refine wpAny_bind ?_
  simp only [newExc, newTuple]
  refine wpAny_bind (wpAny_newObj_type ?_ (by size_fits))
  refine wpAny_bind (m := firstArgMember _ _) (wpAny_of_eq (a := Value.none) (by first | rfl | (simp only [firstArgMember]; rfl)) ?_)
  refine wpAny_newObj_type ?_ (by size_fits)
  have g1 : ∀ (h : Heap) (a b : Obj), h.get? x1 = some o1 → ((h.push a).push b).get? x1 = some o1 := fun h a b e => Heap.get?_push_of_some _ (Heap.get?_push_of_some _ e)
  have e1 := (Heap.SameBut.update s.heap it (Obj.mapFields fun x => x.setIfInBounds 0 Value.none)).extBut _ _ hne h1
  refine raiseNew_hot ⟨hh, o1, vs1, g1 _ _ _ e1, d1, c1⟩ (Nat.ne_of_lt (Heap.lt_size (Heap.get?_push_of_some _ e1))) (Heap.get?_push_size _ rfl) rfl (by first | (simp; done) | (simp; omega) | (simp only [Array.size_append]; simp; omega)) ?_
  refine wpAny_bind (wpAny_isInstance (T := "StopIteration") (b := true) ⟨_, Heap.get?_update_self _ (Heap.get?_push_size _ rfl) rfl, rfl⟩ isSubtype_stop ?_)
  refine wpAny_pure (hQ _ fun b u hb e => ?_)
  have e2 := (Heap.SameBut.update s.heap it (Obj.mapFields fun x => x.setIfInBounds 0 Value.none)).extBut _ _ hb e
  rw [Heap.get?_update_other _ _ (Nat.ne_of_gt (Heap.lt_size (Heap.get?_push_of_some _ e2)))]
  exact Heap.get?_push_of_some _ (Heap.get?_push_of_some _ e2)
section
variable {X : Cx}
theorem pe_lcH {elt tg iter : Expr} {ifs : List Expr} {scope : Scope} {own : List (Str × Nat)} {pos : Pos} {ti : TE} {g : TG} {tt : TT} {te : TE} (hot : HotC X) (hN : X.N.Nodup) (hi : PE X iter ti) (ok : BlkOk X.N X.env.scope scope own)
    (hg : ∀ (s : Shared) (H : Hp) (C : Addr) (cl : List (Str × Addr)) (fp : List Addr), PG (X.blk s H scope (compEnvC scope cl C X.env) fp) tg g) (ht : ∀ (s : Shared) (H : Hp) (C : Addr) (cl : List (Str × Addr)) (fp : List Addr), PTs (X.blk s H scope (compEnvC scope cl C X.env) fp) ifs tt)
    (he : ∀ (s : Shared) (H : Hp) (C : Addr) (cl : List (Str × Addr)) (fp : List Addr), PE (X.blk s H scope (compEnvC scope cl C X.env) fp) elt te) (hs : ∀ x, foldedSetIterable iter X.env x = pure x := by intro _; rfl) :
    PE X (.ListComp elt [⟨tg, iter, ifs, 0⟩] scope pos) (tLc (iList X.K ti) g tt te (own.map (·.2))) := by
  refine ⟨fun pins s σ H Q I h => ?_⟩
  rw [eval_ListComp]
  obtain ⟨p, ⟨hh, v1, d1, c1⟩, hp⟩ := hot
  have hfree : ∀ y ∈ scope.names, y.2 = .free → ∃ c, X.env.cells.lookup y.1 = some c := fun y hy e => I.ok.has _ (ok.free y hy e)
  refine wpAny_comprehension_free (use := none) rfl hs (closure_ok hfree) ok.kind (fun y hy e => by rw [ok.uniq y hy, e]) (thn (hi.run pins s σ H _ I h) fun xv s1 ⟨x, H2, I1, r1, q1⟩ => ?_)
  obtain ⟨a, ea, ⟨xs, hq⟩, q⟩ := q1
  subst ea
  cases r1
  obtain ⟨its, rv, pl, _⟩ := I1.list hq
  refine wpAny_pyIter_list pl.isList (wpAny_newObj_type (newEnv_comp ?_) (by show 0 ≤ sizeLine; decide))
  generalize hit : s1.heap.objs.size = it
  generalize hs2 : ({ s1 with heap := s1.heap.push { cls := .type "list_iterator", data := .fields #[.ref a, .int 0 0] } } : Shared) = s2
  have k2 : ∀ b o, s1.heap.get? b = some o → s2.heap.get? b = some o := fun b o e => by rw [← hs2]; exact Heap.get?_push_of_some _ e
  have I2 : Inv X pins σ H2 s2 := by rw [← hs2]; exact I1.kept (t' := s1.toks) fun b o e => Heap.get?_push_of_some _ e
  have g2 : s2.heap.IsListIter it a 0 := by rw [← hs2, ← hit]; exact ⟨_, Heap.get?_push_size _ rfl, rfl, rfl⟩
  have f2 : FpOk X pins H2 it := by rw [← hit]; exact I1.fpOk (Nat.le_refl _) (I1.hok.fresh (Nat.le_refl _))
  have it2 : it < s2.heap.objs.size := by obtain ⟨_, e, _⟩ := g2; exact Heap.lt_size e
  show codeAny _ _ (.compStart (.ListComp elt [⟨tg, iter, ifs, 0⟩] scope pos) 0 (.ref it) (.ref s2.heap.objs.size) _) _ _
  generalize hD : s2.heap.objs.size = D
  have nD : H2 D = none := I2.hok.fresh (Nat.le_of_eq hD)
  have itD : it ≠ D := by rw [← hD]; exact Nat.ne_of_lt it2
  obtain ⟨W, ⟨m0, w0⟩, turn⟩ := q D nD
  generalize hs3 : ({ s2 with heap := s2.heap.push { cls := .type "list", data := .seq ([] : List Value).toArray } } : Shared) = s3
  have k3 : ∀ b o, s2.heap.get? b = some o → s3.heap.get? b = some o := fun b o e => by rw [← hs3]; exact Heap.get?_push_of_some _ e
  have I3 : Inv X pins σ (upd H2 D (.lst [])) s3 := by
    rw [← hs3]
    refine I2.laid (t' := s2.toks) (fun b o e => Heap.get?_push_of_some _ e) (Nat.le_of_eq hD) ⟨Nat.zero_le _, [], 0, .nil, ?_⟩
    rw [← hD]
    exact Heap.get?_push_size _ rfl
  have f3 : FpOk X pins (upd H2 D (.lst [])) it := ⟨by rw [upd_ne itD]; exact f2.1, f2.2⟩
  have g3 : s3.heap.IsListIter it a 0 := g2.at fun o e => k3 _ o e
  have it3 : it < s3.heap.objs.size := by obtain ⟨_, e, _⟩ := g3; exact Heap.lt_size e
  generalize hH3 : upd H2 D (.lst []) = H3 at I3 f3 w0
  have P3 := I3.pin p (List.mem_append_left _ hp)
  have pfr : p.1 ∉ frs X.stack := fun hm => (List.mem_cons.mp (I3.stkSub p.1 hm)).elim P3.2.2.1 P3.2.2.2.1
  have pit : p.1 ≠ it := fun z => f3.2.2.2.2.2 p (List.mem_append_left _ hp) z
  have I4 := block_start (fp := [it]) I3 ok hN fun b hb => by
    have e : b = it := by simpa using hb
    subst e
    exact ⟨f3, it3⟩
  have pg := hg s3 H3 s3.heap.objs.size (cellsFrom (s3.heap.objs.size + 1) scope.names (cloFrom X.env.cells scope.names [])) [it]
  have pt := ht s3 H3 s3.heap.objs.size (cellsFrom (s3.heap.objs.size + 1) scope.names (cloFrom X.env.cells scope.names [])) [it]
  have pe := he s3 H3 s3.heap.objs.size (cellsFrom (s3.heap.objs.size + 1) scope.names (cloFrom X.env.cells scope.names [])) [it]
  show codeAny _ _ (.compStart (.ListComp elt [⟨tg, iter, ifs, 0⟩] scope pos) 0 (.ref it) (.ref D) (compEnvC scope (cellsFrom (s3.heap.objs.size + 1) scope.names (cloFrom X.env.cells scope.names [])) s3.heap.objs.size X.env)) (compPost (model X.prog X.w) X.A X.xe none (EP X pins σ Q) (.ref D) s3.heap.objs.size) { s3 with heap := pushCells (s3.heap.push { cls := .type "dict", data := .dict #[] }) scope.names }
  generalize hce : compEnvC scope (cellsFrom (s3.heap.objs.size + 1) scope.names (cloFrom X.env.cells scope.names [])) s3.heap.objs.size X.env = ce at I4 pg pt pe ⊢
  have cL : ce.locals = s3.heap.objs.size := by subst hce; rfl
  generalize hs4 : ({ s3 with heap := pushCells (s3.heap.push { cls := .type "dict", data := .dict #[] }) scope.names } : Shared) = s4 at I4 ⊢
  have g4 : s4.heap.IsListIter it a 0 := g3.at fun o e => by rw [← hs4]; exact pushCells_keeps _ _ _ _ (Heap.get?_push_of_some _ e)
  have T : Turn X.prog X.w X.K tg (Itl X.K a) [it] it (fun i h => h.IsListIter it a i) := turn_list a it
  have stat : ∀ {σ' : L2.St} {H' : Hp} {s' : Shared} {pn : List (Addr × Obj)}, pn = [] → Inv (X.blk s3 H3 scope ce [it]) pn σ' H' s' → H' it = none → FpOk (X.blk s3 H3 scope ce [it]) pn H' it := fun {σ' H' s' pn} e I' hn => by
    subst e
    exact ⟨hn, (I'.ok.exf it (by simp)).1, I'.ok.exfs it (by simp), .inl (by simp), fun x c e => (I'.ok.exf it (by simp)).2 x c e, fun p hp => absurd (show p ∈ ([] : List (Addr × Obj)) ++ [] from hp) (by simp)⟩
  have loop : codeAny (model X.prog X.w) X.A (.compLoop (.ListComp elt [⟨tg, iter, ifs, 0⟩] scope pos) 0 (.ref it) (.ref D) ce) (compPost (model X.prog X.w) X.A X.xe none (EP X pins σ Q) (.ref D) s3.heap.objs.size) s4 := by
    refine compLoop_any (fun n s' => ∃ i H', Inv (X.blk s3 H3 scope ce [it]) [] (wipe σ (own.map (·.2))) H' s' ∧ s'.heap.IsListIter it a i ∧ H' it = none ∧ W i n H') ?_ m0 ⟨0, H3, I4, g4, f3.1, w0⟩
    rintro n s5 ⟨i, H5, I5, g5, n5, w5⟩
    have f5 := stat rfl I5 n5
    rcases turn i n H5 w5 with ⟨stop, qq⟩ | ⟨go, Nx, hNx, step⟩
    · obtain ⟨ys, hy, hl⟩ := stop
      obtain ⟨its5, rv5, p5, _⟩ := I5.list (show SqL X.K H5 a ys from hy)
      have e5 := rv5.length
      have hot5 : HotAt X.A p.1 s5.heap := ⟨hh, p.2, v1, I5.base.keep p.1 p.2 P3.1 P3.2.1 pfr (by simpa using pit), d1, c1⟩
      refine thnF (list_end_hot hot5 g5 p5.isList (by simp; omega) fun h' eb => ?_) fun r s6 (hr : r = none ∧ Inv (X.blk s3 H3 scope ce [it]) [] (wipe σ (own.map (·.2))) H5 s6) => ?_
      · exact ⟨rfl, I5.turned (t' := s5.toks) (fun b o hb e => eb b o hb e) f5.1 f5.2.1 f5.2.2.2.1 f5.2.2.2.2.1 f5.2.2.2.2.2⟩
      · obtain ⟨er, I6⟩ := hr
        subst er
        have I7 : Inv X pins σ H5 s6 := I3.call' (ch := [it]) I6.os I6.base I6.hok I6.bare fun b hb => by
          have e : b = it := by simpa using hb
          subst e
          exact ⟨f3.2.2.2.1, f3.2.1, f3.2.2.2.2.1, f3.2.2.2.2.2⟩
        have nC : H5 s3.heap.objs.size = none := by
          have z : H5 ce.locals = none := I6.free
          rw [cL] at z
          exact z
        obtain ⟨m, hn, _⟩ := I6.loc
        have hn : s6.heap.Ns ce.locals m := hn
        rw [cL] at hn
        obtain ⟨y0, y1, y2, y3, y4, y5⟩ : FpOk X pins H5 s3.heap.objs.size := I3.fpOk (Nat.le_refl _) nC
        exact ⟨m, hn, fun h'' sb => ⟨.ref D, H5, I7.turned (t' := s6.toks) (fun b o hb e => (sb.2 b hb).trans e) y0 y1 y3 y4 y5, rfl, qq⟩⟩
    · obtain ⟨ys, y, hy, hyi⟩ := go
      obtain ⟨its5, rv5, p5, _⟩ := I5.list (show SqL X.K H5 a ys from hy)
      obtain ⟨u, hu, ru⟩ := rv5.get hyi
      refine thnF (wpAny_pyNext_list_item g5 p5.isList (x := u) (by simpa using hu) fun h' st' sb => ?_) fun r s6 (hr : r = some u ∧ Inv (X.blk s3 H3 scope ce [it]) [] (wipe σ (own.map (·.2))) H5 s6 ∧ s6.heap.IsListIter it a (i + 1)) => ?_
      · exact ⟨rfl, I5.turned (t' := s5.toks) (fun b o hb e => (sb.2 b hb).trans e) f5.1 f5.2.1 f5.2.2.2.1 f5.2.2.2.2.1 f5.2.2.2.2.2, st'⟩
      · obtain ⟨er, I6, g6⟩ := hr
        subst er
        obtain ⟨o6, e6, cl6, dt6⟩ := id g6
        refine go_of (s := s6) e6 cl6 dt6 (by decide) ?_
        have I7' := I6.pinned (fp := [it]) (fun b hb => by
          have e : b = it := by simpa using hb
          subst e
          exact stat rfl I6 n5) (T.obj _ _ g6)
        have yl : (Itl X.K a).yld i H5 y H5 := ⟨rfl, fun zs hz => by rw [I5.list_inj (show SqL X.K H5 a zs from hz) (show SqL X.K H5 a ys from hy)]; exact hyi⟩
        refine thnF (pg.run _ s6 _ H5 y u _ I7' ru (step y H5 yl)) fun _ s8 ⟨σ8, H8, I8, hw8, q8⟩ => ?_
        refine thnF (pt.run _ s8 σ8 H8 _ I8 q8) fun b s9 ⟨H9, I9, q9⟩ => ?_
        have fin : ∀ {s' : Shared} {H' : Hp}, Inv (X.blk s3 H3 scope ce [it]) ([] ++ pinsAt [it] s6.heap) σ8 H' s' → Nx H' → ∃ m, m < n ∧ ∃ i H', Inv (X.blk s3 H3 scope ce [it]) [] (wipe σ (own.map (·.2))) H' s' ∧ s'.heap.IsListIter it a i ∧ H' it = none ∧ W i m H' := fun {s' H'} I' nx => by
          obtain ⟨m', hm, w'⟩ := hNx H' nx
          have z := I'.pin (it, o6) (List.mem_append_right _ (List.mem_append_right _ (mem_pinsAt (by simp) e6)))
          have hl : (wipe σ (own.map (·.2))).length = σ8.length := by rw [← hw8, wipe_length]
          refine ⟨m', hm, i + 1, H', (I'.unpinned (pins := [])).weak hl (fun j v e => ?_), ⟨o6, z.1, cl6, dt6⟩, z.2.1, w'⟩
          rw [← hw8] at e
          exact (wipe_some e).1
        cases b with
        | false =>
          simp only [Bool.false_eq_true, if_false] at q9 ⊢
          exact fin I9 q9
        | true =>
          simp only [if_true] at q9 ⊢
          refine thnF (pe.run _ s9 σ8 H9 _ I9 q9) fun z s10 ⟨yv, H10, I10, r10, acc, hD10, hz10, nx⟩ => ?_
          exact app_ok (X := X.blk s3 H3 scope ce [it]) I10 hD10 hz10 r10 fun s11 I11 => fin I11 nx
  exact codeAny_compStart_list loop (wpAny_pyIter_listiter g4 loop)
end
end DL
set_option Elab.async false
set_option linter.all false
set_option maxRecDepth 100000
set_option maxHeartbeats 2000000
namespace DL
open PySem PySem.Spec PyProof.Rows L2 L2H HotX LamX
inductive Grown (P : Addr) (H : Hp) : Hp → Prop
  | same : Grown P H H
  | more {ps ps' : Array Value} {c : Addr} {q : Str} : H P = some (.tbl ps) → H c = none → Grown P H (upd (upd H P (.tbl ps')) c (CodeO c q))
theorem SR.grown {S : Gd} {σ : L2.St} {H H1 F : Hp} {env : Env} {ad : Nat → List Addr} {P : Addr} (h : SR S σ H F env ad) (g : Grown P H H1) (ht : Tabs S.T.tabs H1) : SR S σ H1 F env ad := by
  cases g with
  | same => exact h
  | more hP hc =>
    rename_i ps ps' c q
    have at_ : ∀ a u, H a = some u → NoTbl u → upd (upd H P (.tbl ps')) c (CodeO c q) a = some u := fun a u e n => by
      rw [upd_ne (ne_of_none e hc), upd_ne fun z => by rw [z, hP] at e; cases e; exact n ps rfl]
      exact e
    refine ⟨h.len, fun a u e => at_ a u (h.sub a u e) (h.notb a u e), fun i s e => (h.at_ i s e).mono (Le.refl F) fun a ha => ?_, h.out, h.dis, h.mine, fun a u na e nt => at_ a u (h.keep a u na e nt) nt, ⟨ht, fun a us e => ?_⟩, h.notb, h.old, h.le0, fun a e => h.dom a ?_, h.fix⟩
    · obtain ⟨u, e1, e2⟩ := h.kind ha
      rw [e1]
      exact at_ a u e1 e2.notb
    · trivial
    · by_cases z : a = c
      · rw [z, upd_same] at e
        cases e
      · rw [upd_ne z] at e
        by_cases y : a = P
        · rw [y, upd_same] at e
          cases e
        · rw [upd_ne y] at e
          exact e
section
variable {X : Cx} {pins : List (Addr × Obj)} {σ : L2.St} {H : Hp} {s : Shared}
theorem lam_make {T : List (Addr × Str)} {c P : Addr} {params : Arguments} {body : Expr} {scope : Scope} {pos : Pos} {E Q : Value → Shared → Prop} (I : Inv X pins σ H s) (TB : TabB X.base X.mg c P) (hcode : X.env.code = .ref c) (hm : (P, X.env.qual ++ "<lambda>") ∈ T) (hu : ∀ p ∈ T, p.1 = P → p.2 = X.env.qual ++ "<lambda>")
    (hT : Tabs T H) (hdef : defaultsOf params X.env = ([], [])) (hfree : ∀ y ∈ scope.names, y.2 = .free → ∃ c, X.env.cells.lookup y.1 = some c)
    (h : ∀ (f c' : Addr) (pm ctv : Value) (H1 : Hp) (s' : Shared), Inv X pins σ H1 s' → Grown P H H1 → Tabs T H1 → s'.heap.get? f = some (PySem.W.kla_obj "<lambda>" (X.env.qual ++ "<lambda>") params body scope (cloFrom X.env.cells scope.names []) pm c' ctv) → H1 f = none → f ∉ frs X.stack →
      H1 c' = some (CodeO c' (X.env.qual ++ "<lambda>")) → Q (.ref f) s') : wpAny (model X.prog X.w) X.A (eval (.Lambda params body scope pos) X.env) Q E s := by
  obtain ⟨ps, hP, ht, ha⟩ := hT _ hm
  refine PySem.W.kla_eval hdef ?_
  have bP : s.heap.BuiltinsAt X.mg P := TB.bm.keeps I.bk
  have hP' : s.heap.get? P = some { cls := .none, data := .fields ps } := I.hok P _ hP
  have nofr : ∀ f, s.heap.objs.size ≤ f → f ∉ frs X.stack := fun f hf z => (List.mem_cons.mp (I.stkSub _ z)).elim (fun e => Nat.lt_irrefl _ (Nat.lt_of_lt_of_le (show f < s.heap.objs.size from e ▸ I.lt) hf)) (I.nofs hf)
  cases hc : codeAmong pos ps.toList with
  | some cv =>
    obtain ⟨c', e, hco⟩ := ha pos cv hc
    subst e
    exact PySem.W.kla_makeFunctionHit (mg := X.mg) (c := c) (P := P) (ps := ps) (closure_ok hfree) I.ok.glob (I.mod.glob.keeps I.bk) hcode (TB.code.keeps I.bk) hP' ht hc bP fun ctv h' tk hx hsz =>
      h h'.objs.size c' _ ctv H _ (I.kept fun b o e => Heap.get?_push_of_some _ (hx b o e)) .same hT (Heap.get?_push_size _ rfl) (I.hok.fresh hsz) (nofr _ hsz) hco
  | none =>
    refine PySem.W.kla_makeFunction (mg := X.mg) (c := c) (P := P) (ps := ps) (closure_ok hfree) I.ok.glob (I.mod.glob.keeps I.bk) hcode (TB.code.keeps I.bk) hP' ht hc TB.gP bP fun c' ctv h' tk hx hge hlt hrec htb => ?_
    obtain ⟨c2, oc, vs, t, e2, hoc, hd, hv⟩ := hrec
    cases e2
    have hsz : s.heap.objs.size ≤ h'.objs.size := Nat.le_trans hge (Nat.le_of_lt hlt)
    have nC : H c' = none := I.hok.fresh hge
    have I1 := inv_table (t' := tk) (more := #[rawInt pos.line, rawInt pos.col, .ref c']) (h' := h'.push (PySem.W.kla_obj "<lambda>" (X.env.qual ++ "<lambda>") params body scope (cloFrom X.env.cells scope.names []) ((X.mg "__name__").getD .none) c' ctv)) I hP
      (fun b o hb e => Heap.get?_push_of_some _ (hx b o hb e)) (Heap.get?_push_of_some _ htb) hge ⟨oc, vs, t, Heap.get?_push_of_some _ hoc, hd, hv⟩
    have eL : (ps ++ #[rawInt pos.line, rawInt pos.col, .ref c']).toList = ps.toList ++ [rawInt pos.line, rawInt pos.col, .ref c'] := by simp
    have kp : ∀ b o, H b = some o → (∀ q, o ≠ .tbl q) → upd (upd H P (.tbl (ps ++ #[rawInt pos.line, rawInt pos.col, .ref c']))) c' (CodeO c' (X.env.qual ++ "<lambda>")) b = some o := fun b o e n => by
      have nP : b ≠ P := fun z => n ps (Option.some.inj (e.symm.trans (by rw [z]; exact hP)))
      rw [upd_ne (ne_of_none e nC), upd_ne nP]
      exact e
    refine h h'.objs.size c' _ ctv _ _ I1 (.more hP nC) (fun p hp => ?_) (Heap.get?_push_size _ rfl) ?_ (nofr _ hsz) upd_same
    · by_cases hb : p.1 = P
      · rw [hu p hp hb, hb]
        refine ⟨_, by rw [upd_ne (ne_of_none hP nC), upd_same], by rw [eL]; exact PySem.TriplesOk_snoc _ _ _ _ ht, fun p' cv hcv => ?_⟩
        rw [eL] at hcv
        rcases among_app _ ht hcv with z | z
        · obtain ⟨c0, e1, e2⟩ := ha p' cv z
          exact ⟨c0, e1, kp _ _ e2 codeO_ne⟩
        · exact ⟨c', z, upd_same⟩
      · obtain ⟨ps', a1, a2, a3⟩ := hT p hp
        refine ⟨ps', by rw [upd_ne (ne_of_none a1 nC), upd_ne hb]; exact a1, a2, fun p' cv hcv => ?_⟩
        obtain ⟨c0, e1, e2⟩ := a3 p' cv hcv
        exact ⟨c0, e1, kp _ _ e2 codeO_ne⟩
    · rw [upd_ne (Nat.ne_of_gt hlt), upd_ne (Nat.ne_of_gt (Nat.lt_of_lt_of_le (Heap.lt_size hP') hsz))]
      exact I.hok.fresh hsz
end
abbrev lamN (X : Cx) (A : Around) (outer : List PySem.Env) (s : Shared) (H : Hp) (E : XK) (scope : Scope) (f c' : Addr) : Cx :=
  (lamCx X A outer s H E scope f c').tr [] fun e s' => wpAny (model X.prog X.w) (A.deeper (lamEnv X scope s.heap.objs.size f c')) (leaving (lamEnv X scope s.heap.objs.size f c') e) (fun _ s'' => L2N.CX X.prog X.w outer H s E e s'') (fun e' s'' => L2N.CX X.prog X.w outer H s E e' s'') s'
theorem lamN_takes {X : Cx} {A : Around} {outer : List PySem.Env} {s : Shared} {H : Hp} {E : XK} {scope : Scope} {f c' : Addr} : L2N.Takes (lamN X A outer s H E scope f c') (wOf E) := L2N.takes_of rfl rfl rfl rfl
section
variable {X : Cx} {pins : List (Addr × Obj)} {σ : L2.St} {H : Hp} {s : Shared}
theorem lam_act {CXg : CXT} {Eg : XK} {Ng : List Str} {qg : Str} {sg : Scope} {g f c' : Addr} {cdg pm ctv : Value} {params : Arguments} {body : Expr} {scope : Scope} {k i : Nat} {a : Str} {pn : List (Addr × Obj)} {xe : Value → Shared → Prop} {W : WX} {E : XK} {tb : TE} {p1 p2 : Pos}
    (I : Inv X pins σ H s) (L : LamS X.env.scope scope) (hf : s.heap.get? f = some (PySem.W.kla_obj "<lambda>" (X.env.qual ++ "<lambda>") params body scope (cloFrom X.env.cells scope.names []) pm c' ctv)) (hfn : H f = none) (hfr : f ∉ frs X.stack)
    (hbind : bindArgs (PySem.W.kla_fn "<lambda>" (X.env.qual ++ "<lambda>") params body scope (cloFrom X.env.cells scope.names []) pm (.ref c') ctv) ⟨[], []⟩ = pure [])
    (tk : L2N.Takes ((cxOf CXg X.prog X.w X.K X.mg X.base Ng qg sg g cdg X.A X.stack s H Eg).tr pn xe) W) (hW : ∀ cls d σ' H', E cls d H' → W cls d σ' H') (hr : Room (k + 1) (X.A.deeper (envOfC qg sg s.heap.objs.size g cdg)))
    (hbody : ∀ (A : Around) (outer : List PySem.Env) (s : Shared) (H : Hp), Room k (A.deeper (lamEnv X scope s.heap.objs.size f c')) → PE (lamN X A outer s H E scope f c') body tb)
    (hN : Ng[i]? = some a) (hv : Vis sg a) (hd : (a == ("__debug__" : Str)) = false) (hcd : (a == ("__classdict__" : Str)) = false) :
    PE ((cxOf CXg X.prog X.w X.K X.mg X.base Ng qg sg g cdg X.A X.stack s H Eg).tr pn xe) (.Call (.Name a p1) [] [] p2) (fun σZ HZ Q => σZ[i]? = some (some (.ref f)) ∧ HZ c' = some (CodeO c' (X.env.qual ++ "<lambda>")) ∧ tb σ HZ Q) := by
  refine ⟨fun pinsZ sZ σZ HZ Q IZ ⟨hs, hc, ht⟩ => ?_⟩
  refine wpAny_Call_Name_kw (thn ((pe_var (pos := p1) (i := i) hN hv hd hcd).run pinsZ sZ σZ HZ (fun v H1 => v = .ref f ∧ H1 = HZ) IZ ⟨.ref f, hs, rfl, rfl⟩) fun u s1 ⟨v, H1, I1, r1, ev, eH⟩ => ?_)
  subst ev
  subst eH
  obtain rfl : u = Value.ref f := r1
  have of1 := I1.base.keep f _ hf hfn hfr (fun z => nomatch (show f ∈ ([] : List Addr) from z))
  refine PySem.W.callWith_F0 ⟨_, _, _, _, of1⟩ ?_
  obtain ⟨⟨oc, vs, t, hoc, hdc, hvc⟩, _, _⟩ := I1.hok c' _ hc
  have rc : codeAny (model X.prog X.w) (X.A.deeper (envOfC qg sg s.heap.objs.size g cdg)) (.call (.ref f) ⟨[], []⟩) (CR (L2N.CX X.prog X.w) (envOfC qg sg s.heap.objs.size g cdg :: X.stack) X.prog X.w H1 s1 Q E) s1 := by
    refine PySem.W.kla_callFunE hr.depth of1 rfl L.co L.gen rfl ⟨c', oc, vs, t, rfl, hoc, hdc, hvc⟩ ?_
    rw [hbind]
    refine wpAny_pure (wpAny_newFunctionEnv (fun y hy => (L.own y hy).2) (fun y hy => absurd hy (by simp)) (fun h₁ hns hsb => ⟨I1.nolimit.fresh _ hsb, ?_⟩) L.kind)
    have kp : ∀ b o, s1.heap.get? b = some o → h₁.get? b = some o := fun b o e => hsb.extBut b o (Nat.ne_of_lt (Heap.lt_size e)) (Heap.get?_push_of_some _ e)
    have J := lam_start2 (A := X.A.deeper (envOfC qg sg s.heap.objs.size g cdg)) (outer := envOfC qg sg s.heap.objs.size g cdg :: X.stack) (E := E) (f := f) (c' := c') (tk := s1.toks + ([] : List (Str × Value)).length) I L I1.env0 hr.hd I1.base hns kp
    have b := (hbody _ _ s1 H1 (hr.deeper _)).run [] _ _ H1 Q (J.toTry _) ht
    exact PySem.W.kla_codeExpr (wpAny_mono b (fun v s' ⟨w', H', J', rv, q⟩ => ⟨w', H', J'.os, J'.bare, J'.base, J'.hok, rv, q⟩) fun e s' hq => hq)
  refine wpAny_call (codeAny_mono rc fun r s' hq => ?_)
  cases r with
  | error e => exact L2N.passes_call tk hW pinsZ σZ H1 s1 e s' I1 hq
  | ok fl =>
    cases fl with
    | ret u => exact I1.after hq
    | next => exact hq.elim
    | brk => exact hq.elim
    | cont => exact hq.elim
end
end DL
set_option Elab.async false
set_option linter.all false
set_option maxRecDepth 100000
set_option maxHeartbeats 2000000
namespace DL
open PySem PySem.Spec PyProof.Rows L2 L2H HotX LamX
def isRef (a : Addr) : V → Bool
  | .ref b => b == a
  | _ => false
theorem isRef_eq {a : Addr} {v : V} (h : isRef a v = true) : v = .ref a := by
  cases v with
  | ref b =>
    have e : (b == a) = true := h
    rw [beq_iff_eq] at e
    rw [e]
  | _ => cases h
theorem isRef_self {a : Addr} : isRef a (.ref a) = true := beq_self_eq_true a
def eIsE (a : Addr) (b : Bool) (m : M D) : M D := fun env => (m env).bind fun d e => match d with
  | .raw v => if isRef a v = true then .ok (.bl b) e else .bad
  | _ => .bad
section
variable {X : Cx} {S : Gd} {W : WX} {e : Expr} {m : M D} {pos p px : Pos} {a C : Addr} {oe : Obj}
theorem call_isP (hp : (a, oe) ∈ X.pn) (ec : ExcC X.K C) (hz : Zc (.ref C) none oe) (hf : ∃ vs, oe.data = .fields vs) : CallR X (.builtin "isinstance") (rIsE X.K C a) := by
  intro pins s σ H xs us Q I r h
  obtain ⟨c, cv, b, rfl, hcv, e, q⟩ := h
  cases r with
  | cons rx rr =>
    cases rr with
    | cons rt rr =>
      cases rr
      cases rx
      obtain rfl := hcv _ rt
      have hget := (I.pin (a, oe) (List.mem_append_left _ hp)).1
      have J : PySem.W.InstAt s.heap a oe C none := by
        obtain ⟨oc, od, oda, osl⟩ := oe
        obtain ⟨h1, h2⟩ := hz
        obtain ⟨vs, hv⟩ := hf
        dsimp only at h1 h2 hv
        subst h1 h2 hv
        exact ⟨hget, rfl, rfl, trivial⟩
      exact PySem.W.kia_one (PySem.W.handS_kitx_exc ec.hg ec.hk ec.hs ec.hd ec.ha ec.hn ec.ht ec.hm) I.kIn J e (fun z => nomatch z) fun tk => ⟨.bl b, H, I.kept (t' := tk) fun _ _ z => z, rfl, q⟩
theorem de_isE {x : Str} {v2 : V} {cv : Value} {b : Bool} (hp : (a, oe) ∈ X.pn) (ec : ExcC X.K C) (hz : Zc (.ref C) none oe) (hf : ∃ vs, oe.data = .fields vs) (hk : PySem.W.kitOne X.K (.ref C) cv = some b) (he : PE X e (tD S W m)) (hc : PE X (.Name x px) (tC v2)) (hv : ∀ u, RelV v2 u → u = cv)
    (hg : Gl X "isinstance") (hm : X.mg "isinstance" = none) (hs : starEach [e, .Name x px] X.env = (false, eval e X.env) :: starEach [.Name x px] X.env := by rfl) (hs2 : starEach [.Name x px] X.env = (false, eval (.Name x px) X.env) :: starEach [] X.env := by rfl)
    (hpl : (backTo pos (starEach [.Name x px] X.env)).any (·.1) = false := by rfl) : PE X (.Call (.Name "isinstance" p) [e, .Name x px] [] pos) (tD S W (eIsE a b m)) :=
  PE.imp (pe_callB (call_isP hp ec hz hf) hg hm (by decide +kernel) (pa_cons he (pa_cons hc pa_nil hs2) hs) (by decide) (by decide) hs hpl) fun σ H Q ⟨F, env, ad, sr, p⟩ => ⟨F, env, ad, sr, p.bind.imp fun d e1 H1 F1 ad1 le1 sr1 q v r => by
    have q2 := q.2
    split at q2
    · rename_i v'
      split at q2
      · rename_i hr
        cases r
        have ev := isRef_eq hr
        subst ev
        exact ⟨_, _, _, rfl, hv, hk, q2 H1 F1 ad1 (Le.refl F1) sr1 _ (.bl b)⟩
      · exact q2.elim
    · exact q2.elim⟩
end
section
variable {X : Cx} {S : Gd} {W : WX} {elt tg iter : Expr} {ifs : List Expr} {scope : Scope} {own : List (Str × Nat)} {pos : Pos} {m te : M D} {tt : M Bool} {f : Tg} {js : List Nat}
theorem ti_list (hK : X.K = S.T.K) {σ : L2.St} {H : Hp} {R : It → Hp → Prop} (h : tI S W (iLst m) σ H R) : iList X.K (tD S W m) σ H R := by
  obtain ⟨F, env, ad, sr, p⟩ := h
  refine ⟨F, env, ad, sr, p.bind.imp fun d e1 H1 F1 ad1 le1 sr1 q v r => ?_⟩
  rw [hK]
  have q2 := q.2
  cases r with
  | lst h1 r1 => exact ⟨_, rfl, ⟨_, .of (sr1.sub _ _ h1)⟩, q2 H1 F1 ad1 (Le.refl F1) sr1 _ (it_list h1 r1)⟩
  | _ => exact q2.elim
theorem do_lcH (hot : HotC X) (hN : X.N.Nodup) (hi : PE X iter (tD S W m)) (ok : BlkOk X.N X.env.scope scope own)
    (hg : ∀ (s : Shared) (H : Hp) (C : Addr) (cl : List (Str × Addr)) (fp : List Addr) (G : Gr S), PG (X.blk s H scope (compEnvC scope cl C X.env) fp) tg (tG G.1 js f))
    (ht : ∀ (s : Shared) (H : Hp) (C : Addr) (cl : List (Str × Addr)) (fp : List Addr) (G : Gr S), PTs (X.blk s H scope (compEnvC scope cl C X.env) fp) ifs (tT G.1 W0 tt))
    (he : ∀ (s : Shared) (H : Hp) (C : Addr) (cl : List (Str × Addr)) (fp : List Addr) (G : Gr S), PE (X.blk s H scope (compEnvC scope cl C X.env) fp) elt (tD G.1 W0 te))
    (hj : ∀ j ∈ js, j ∈ own.map (·.2) := by decide) (hK : X.K = S.T.K := by rfl) (hs : ∀ x, foldedSetIterable iter X.env x = pure x := by intro _; rfl) : PE X (.ListComp elt [⟨tg, iter, ifs, 0⟩] scope pos) (tO S W (oLc (own.map (·.2)) (iLst m) f tt te)) :=
  PE.imp (pe_lcH hot hN hi ok (fun s H C cl fp => PG.all (hg s H C cl fp)) (fun s H C cl fp => PTs.all (ht s H C cl fp)) (fun s H C cl fp => PE.all (he s H C cl fp)) hs) fun σ H Q h => ti_list hK (t_lc hj h)
end
section
variable {X : Cx} {a : Addr} {oe : Obj} {x y qual : Str} {params : Arguments} {body : List Stmt} {scope : Scope} {f : Addr} {fd : FuncData} {N : List Str} {k i : Nat} {e : Expr} {p pos : Pos} {ι : Type} {t : ι → TS}
theorem pe_hot (F : FunD X.K x qual params body scope [] [] f fd) (SC : FnScope N [y] scope) (hot : Hot1 X.A (a, oe)) (hp : (a, oe) ∈ X.pn) (hr : RoomH (k + 1) X.A) (hg : Gl X x) (hm : X.mg x = some (.ref f)) (hb : Binds X.K fd [y] []) (he : PE X e (tVar i))
    (hbody : ∀ (cdv : Value) (s : Shared) (H : Hp) (G : ι), RoomH k (X.A.deeper (envOfC qual scope s.heap.objs.size f cdv)) → PSs (cxH C8.CX0 X.prog X.w X.K X.mg X.base N qual scope f cdv X.A X.stack s H C8.E0 (a, oe)) body (t G)) (hdb : (x == ("__debug__" : Str)) = false := by decide)
    (hs : starEach [e] X.env = (false, eval e X.env) :: starEach [] X.env := by rfl) (hpl : (backTo pos (starEach [] X.env)).any (·.1) = false := by rfl) :
    PE X (.Call (.Name x p) [e] [] pos) (fun σ H Q => σ[i]? = some (some (.ref a)) ∧ ∃ G, t G { nx := fun _ H' => Q .non H', rt := Q } (L2.start N [.ref a]) H) := by
  refine ⟨fun pins s σ H Q I ⟨hi, G, ht⟩ => ?_⟩
  obtain ⟨oc, od, dV, kV, doc, pm, an, cdv, ct, osl, rfl, lk, hcd, _, _⟩ := F.ex
  refine wpAny_Call_Name_kw (ld_glob I hg hm ?_ hdb)
  refine PySem.W.callWith_K (h₀ := X.base) I.ok.mod.kin F.kp (thn ((pa_cons he pa_nil hs).run pos pins s σ H (fun vs H1 => vs = [.ref a] ∧ H1 = H) I ⟨_, hi, rfl, rfl⟩) fun us s1 ⟨vs, H1, I1, r, ev, eH⟩ => ⟨I1.kIn, ?_⟩) hs hpl
  subst ev
  subst eH
  have P1 := I1.pin (a, oe) (List.mem_append_left _ hp)
  have hpin : PinOk X.stack H1 s1 (a, oe) := ⟨P1.1, P1.2.1, fun h => (List.mem_cons.mp (I1.stkSub _ h)).elim P1.2.2.1 P1.2.2.2.1, P1.2.2.2.2⟩
  have e0 := I1.env0
  have hl : us.length = [y].length := by rw [← r.length]; rfl
  have bd := hb s1 us I1.kIn (by rw [List.append_nil]; exact hl)
  rw [List.append_nil] at bd
  have lim : s1.heap.NoLimit := e0.mod.nolimit.keeps fun b o e => (e0.bs b o e).1
  have KX : X.K.In s1.heap := I1.kIn
  have hkind : ∀ z ∈ [y].zip us, scope.names.lookup z.1 = some .local ∨ (scope.names.lookup z.1 = some .cell ∧ ((cellsFrom (s1.heap.objs.size + 1) scope.names []).lookup z.1).isSome = true) := fun z hz =>
    (SC.par z.1 (List.of_mem_zip (show (z.1, z.2) ∈ _ from hz)).1).elim .inl fun q => .inr ⟨q, PySem.W.cellsFrom_some _ _ _ (.inl q)⟩
  have rc : codeAny (model X.prog X.w) X.A (.call (.ref f) ⟨us, []⟩) (CR C8.CX0 X.stack X.prog X.w H1 s1 Q C8.E0) s1 := by
    refine codeAny_call_function hr.depth (KX _ _ lk) rfl SC.co SC.gen rfl (PySem.W.codeRec_of KX hcd) (bd _ _ _ _ ?_)
    refine wpAny_newFunctionEnv_cells SC.kind hkind fun env hev s2 xx => ?_
    subst hev
    refine ⟨lim.keeps xx.toInCall.keep, codeAny_func ?_⟩
    have J := inv_startH (CX := C8.CX0) (qual := qual) (f := f) (cd := cdv) (E := C8.E0) SC hpin e0 (vs := [.ref a]) rfl r xx
    refine wpAny_mono ((hbody cdv s1 H1 G (hr.deeper _)).run [] s2 _ H1 _ J ht) (fun fl s' hq => ?_) fun e s' hq => hq
    cases fl with
    | ret u =>
      obtain ⟨v, σ', H', J', rv, q⟩ := hq
      exact ⟨v, H', J'.os, J'.bare, J'.base, J'.hok, rv, q⟩
    | next =>
      obtain ⟨σ', H', J', q⟩ := hq
      exact ⟨.non, H', J'.os, J'.bare, J'.base, J'.hok, rfl, q⟩
    | brk =>
      obtain ⟨_, _, _, q⟩ := hq
      exact q.elim
    | cont =>
      obtain ⟨_, _, _, q⟩ := hq
      exact q.elim
  refine wpAny_call (codeAny_mono rc fun r' s' hq => ?_)
  cases r' with
  | error e => exact (show False from hq).elim
  | ok fl =>
    cases fl with
    | ret u => exact I1.after hq
    | next => exact hq.elim
    | brk => exact hq.elim
    | cont => exact hq.elim
end
def Gives (X : Cx) (Ng : List Str) (x : Str) (sg : Scope) (g : Addr) (cdg : Value) (bg : List Stmt) (a : Str) (q : Str) (TT : (XK → Hp → VK → Prop) → Hp → VK → Prop) (k : Nat) : Prop :=
  ∀ (f c' : Addr) (s : Shared) (H : Hp) (Q : VK) (tl : XK → Hp → VK → Prop),
    (∀ (W : WX) (pn : List (Addr × Obj)) (xe : Value → Shared → Prop) (E : XK) (p1 p2 : Pos), L2N.Takes ((cxOf C8.CX0 X.prog X.w X.K X.mg X.base Ng x sg g cdg X.A X.stack s H C8.E0).tr pn xe) W → (∀ cls d σ' H', E cls d H' → W cls d σ' H') →
      PE ((cxOf C8.CX0 X.prog X.w X.K X.mg X.base Ng x sg g cdg X.A X.stack s H C8.E0).tr pn xe) (.Call (.Name a p1) [] [] p2) (fun σZ HZ Q => σZ[0]? = some (some (.ref f)) ∧ HZ c' = some (CodeO c' q) ∧ tl E HZ Q)) →
    Room k (X.A.deeper (envOfC x sg s.heap.objs.size g cdg)) → H c' = some (CodeO c' q) → TT tl H Q →
    ∃ t, PSs (cxOf C8.CX0 X.prog X.w X.K X.mg X.base Ng x sg g cdg X.A X.stack s H C8.E0).nox bg t ∧ t { nx := fun _ H' => Q .non H', rt := Q } (L2.start Ng [.ref f]) H
def tLamN (P : Addr) (T : List (Addr × Str)) (TT : (XK → Hp → VK → Prop) → Hp → VK → Prop) (t : XK → TE) : TE := fun σ H Q => Tabs T H ∧ ∀ H1, Grown P H H1 → Tabs T H1 → TT (fun E H' Q' => t E σ H' Q') H1 Q
section
variable {X : Cx}
theorem pe_lamN {T : List (Addr × Str)} {TT : (XK → Hp → VK → Prop) → Hp → VK → Prop} {x a : Str} {g c P : Addr} {k : Nat} {pg : Arguments} {bg : List Stmt} {sg : Scope} {fd : FuncData} {Ng : List Str} {params : Arguments} {body : Expr} {scope : Scope} {t : XK → TE} {p lpos pos : Pos}
    (F : FunD X.K x x pg bg sg [] [] g fd) (hg : Gl X x) (hm : X.mg x = some (.ref g)) (hb : L2.Binds X.K fd [a] []) (Sg : FnScope Ng [a] sg) (hNg : Ng[0]? = some a) (hva : Vis sg a) (hG : ∀ cdv, Gives X Ng x sg g cdv bg a (X.env.qual ++ "<lambda>") TT (k + 1))
    (TB : TabB X.base X.mg c P) (hcode : X.env.code = .ref c) (hmT : (P, X.env.qual ++ "<lambda>") ∈ T) (hu : ∀ p ∈ T, p.1 = P → p.2 = X.env.qual ++ "<lambda>") (hr : Room (k + 2) X.A) (L : LamS X.env.scope scope) (hdef : defaultsOf params X.env = ([], []))
    (hbind : ∀ (q : Str) (cl : List (Str × Addr)) (pm cv ctv : Value), bindArgs (PySem.W.kla_fn "<lambda>" q params body scope cl pm cv ctv) ⟨[], []⟩ = pure [])
    (hbody : ∀ (A : Around) (outer : List PySem.Env) (s : Shared) (H : Hp) (E : XK) (f c' : Addr), Room k (A.deeper (lamEnv X scope s.heap.objs.size f c')) → PE (lamN X A outer s H E scope f c') body (t E))
    (hdb : (x == ("__debug__" : Str)) = false := by decide) (hd : (a == ("__debug__" : Str)) = false := by decide) (hcd : (a == ("__classdict__" : Str)) = false := by decide) :
    PE X (.Call (.Name x p) [.Lambda params body scope lpos] [] pos) (tLamN P T TT t) := by
  refine ⟨fun pins s σ H Q I ⟨hT, h⟩ => ?_⟩
  obtain ⟨oc, od, dV, kV, doc, pm, an, cdv, ct, osl, rfl, lk, hcg, _, _⟩ := F.ex
  refine wpAny_Call_Name_kw (ld_glob I hg hm ?_ hdb)
  refine PySem.W.callWith_K (h₀ := X.base) I.ok.mod.kin F.kp ?_ (by rfl) (by rfl)
  show wpAny _ _ (spliced ((false, eval (.Lambda params body scope lpos) X.env) :: backTo pos (starEach [] X.env))) _ _ s
  refine Calls.spliced_cons (lam_make I TB hcode hmT hu hT hdef (L.has I.ok) fun f c' pm' ctv H1 s' I1 gr T1 hf hfn hfr hco => Calls.spliced_nil ⟨I1.kIn, ?_⟩)
  have rc : codeAny (model X.prog X.w) X.A (.call (.ref g) ⟨[.ref f], []⟩) (CR C8.CX0 X.stack X.prog X.w H1 s' Q C8.E0) s' := by
    refine run_ofS (N := Ng) (ps := [a]) (us := [.ref f]) (vs := [.ref f]) lk hcg Sg hr I1.env0 (hb s' [.ref f] I1.kIn rfl) (.cons rfl .nil) rfl fun hr' => ?_
    obtain ⟨t', ht', hq'⟩ := hG cdv f c' s' H1 Q (fun E H' Q' => t E σ H' Q') (fun W pn xe E p1 p2 tk hW => lam_act (i := 0) I1 L hf hfn hfr (hbind _ _ _ _ _) tk hW hr' (fun A outer s H hr2 => hbody A outer s H E f c' hr2) hNg hva hd hcd) hr' hco (h H1 gr T1)
    exact ⟨t', ht'.nox, hq'⟩
  refine wpAny_call (codeAny_mono rc fun r s2 hq => ?_)
  cases r with
  | error e => exact (show False from hq).elim
  | ok fl =>
    cases fl with
    | ret u => exact I1.after hq
    | next => exact hq.elim
    | brk => exact hq.elim
    | cont => exact hq.elim
end
end DL
set_option Elab.async false
set_option linter.all false
set_option maxRecDepth 100000
set_option maxHeartbeats 2000000
namespace DL
open PySem PySem.Spec PyProof.Rows L2 L2H HotX LamX
theorem takes0N {X : Cx} : L2N.Takes X (fun _ _ _ _ => False) := fun _ _ ⟨_, _, _, _, _, _, _, _, _, _, _, _, _, _, _, _, z⟩ => z.elim
def errD (c : Str) : D := .tup [.str "error", .str c]
structure TermOk (P : Program) (w : World) (T : Tb) (mg : Str → Option Value) (base : Heap) (k : Nat) (cs : List Str) : Prop where
  ex : ∃ (f : Addr) (fd : FuncData) (params : Arguments) (body : List Stmt) (scope : Scope) (N : List Str) (mb : Addr → Str → Env → Fl), FunD T.K "_law_term" "_law_term" params body scope [] [] f fd ∧ FnScope N ["e"] scope ∧ mg "_law_term" = some (.ref f) ∧ Binds T.K fd ["e"] [] ∧
    (∀ c ∈ cs, ∀ C, T.exc c = some C → ∀ (cdv : Value) (A : Around) (outer : List PySem.Env) (s : Shared) (H : Hp) (a : Addr) (oe : Obj) (G : Gd), G.T = T → RoomH k (A.deeper (envOfC "_law_term" scope s.heap.objs.size f cdv)) → Hot1 A (a, oe) → Zc (.ref C) none oe → (∃ vs, oe.data = .fields vs) →
      PSs (cxH C8.CX0 P w T.K mg base N "_law_term" scope f cdv A outer s H C8.E0 (a, oe)) body (tS G W0 (mb a c))) ∧
    ∀ c ∈ cs, ∀ a, ∃ e', mb a c (.dat (.raw (.ref a)) :: List.replicate (N.length - 1) .emp) = .rt (errD c) e'
def eTold (cs : List Str) (m : M D) : M D := fun env => match m env with
  | .ok d e => .ok d e
  | .exc c e => if cs.elem c = true then .ok (errD c) e else .bad
  | .bad => .bad
theorem takes_len {X : Cx} {W : WX} (tk : L2N.Takes X W) : L2N.Takes X (fun cls d σ H => σ.length = X.N.length → W cls d σ H) := fun u s' ⟨a, B, sI, pins, σ, H, cls, d, e, I, nb, up, sky, na, os, ag, w⟩ =>
  tk u s' ⟨a, B, sI, pins, σ, H, cls, d, e, I, nb, up, sky, na, os, ag, w I.len⟩
section
variable {X : Cx} {T : Tb} {H0 F0 : Hp} {OA : List Addr} {V0 : L2.St} {W : WX} {g c P CS : Addr} {k : Nat} {pg params : Arguments} {sg scope : Scope} {fd : FuncData} {body : Expr} {m : M D} {p lpos pos p1 p2 p3 p4 p5 p6 p7 p8 p9 p10 : Pos} {cs : List Str}
def tSuite (T : Tb) (cs : List Str) (mb : Addr → Str → Env → Fl) (N : List Str) : Addr → Value → Option Addr → TS := fun a cls d D σ H =>
  ∃ c C, cls = .ref C ∧ d = none ∧ T.exc c = some C ∧ c ∈ cs ∧ σ[1]? = some (some (.ref a)) ∧ ∃ G : { G : Gd // G.T = T }, tS G.1 W0 (mb a c) { nx := fun _ H' => D.rt .non H', rt := D.rt } (L2.start N [.ref a]) H
abbrev toldB (p1 p2 p3 p4 p5 p6 p7 p8 p9 p10 : Pos) : List Stmt := [.Try [.Return (some (.Call (.Name "deed" p1) [] [] p2)) p3] [.ExceptHandler (some (.Name "StepError" p4)) (some "e") [.Return (some (.Call (.Name "_law_term" p5) [.Name "e" p6] [] p7)) p8] p9] [] [] p10]
theorem told_gives {ft : Addr} {fdt : FuncData} {pt : Arguments} {bt : List Stmt} {st : Scope} {N : List Str} {mb : Addr → Str → Env → Fl} (t1 : FunD X.K "_law_term" "_law_term" pt bt st [] [] ft fdt) (t2 : FnScope N ["e"] st) (t3 : X.mg "_law_term" = some (.ref ft)) (t4 : Binds X.K fdt ["e"] [])
    (t5 : ∀ c ∈ cs, ∀ C, T.exc c = some C → ∀ (cdv : Value) (A : Around) (outer : List PySem.Env) (s : Shared) (H : Hp) (a : Addr) (oe : Obj) (G : Gd), G.T = T → RoomH k (A.deeper (envOfC "_law_term" st s.heap.objs.size ft cdv)) → Hot1 A (a, oe) → Zc (.ref C) none oe → (∃ vs, oe.data = .fields vs) →
      PSs (cxH C8.CX0 X.prog X.w X.K X.mg X.base N "_law_term" st ft cdv A outer s H C8.E0 (a, oe)) bt (tS G W0 (mb a c)))
    (hCS : X.mg "StepError" = some (.ref CS)) (nd : ([Str.ofString "deed", "e"] : List Str).Nodup) (l1 : sg.names.lookup (Str.ofString "e") = some .local) (l2 : sg.names.lookup (Str.ofString "StepError") = some .globalImplicit) (l3 : sg.names.lookup (Str.ofString "_law_term") = some .globalImplicit) (cdv : Value) :
    Gives X ["deed", "e"] "_law_told" sg g cdv (toldB p1 p2 p3 p4 p5 p6 p7 p8 p9 p10) "deed" (X.env.qual ++ "<lambda>")
      (fun tl H Q => tl (fun cls d H' => ∃ b, PySem.W.exmOne X.K cls (.ref CS) = some b ∧ (b = true → ∀ a, H' a = none → ∃ c C, cls = .ref C ∧ d = none ∧ T.exc c = some C ∧ c ∈ cs ∧ ∃ G : { G : Gd // G.T = T }, tS G.1 W0 (mb a c) { nx := fun _ H' => Q .non H', rt := Q } (L2.start N [.ref a]) H') ∧ (b = false → False)) H Q) (k + 2) := by
  intro f c' s H Q tl act hrm hco ht
  refine ⟨_, pss_one (L2N.ps_try_as (X := (cxOf C8.CX0 X.prog X.w X.K X.mg X.base ["deed", "e"] "_law_told" sg g cdv X.A X.stack s H C8.E0).nox) (c := .ref CS) (i := 1) (n := "e") (ts := tSuite T cs mb N)
    (tb := fun W D σ H => ∃ Ech : XK, (∀ cls d σ' H', Ech cls d H' → σ'.length = 2 → W cls d σ' H') ∧ σ[0]? = some (some (.ref f)) ∧ H c' = some (CodeO c' (X.env.qual ++ "<lambda>")) ∧ tl Ech H D.rt)
    rfl rfl nd rfl l1 ⟨l2, by decide, .inl hCS⟩ takes0N (fun W pn xe tk _ => ?_) (fun a oe cls d pn hz hf => ?_)), ?_⟩
  · refine ⟨fun pins s' σ H' D I ⟨Ech, hW, h1, h2, h3⟩ => ?_⟩
    exact (pss_one (ps_ret (pos := p3) (act _ pn xe Ech p1 p2 (takes_len tk) fun cls d σ' H' z l => hW cls d σ' H' z l))).run pins s' σ H' D I ⟨h1, h2, h3⟩
  · refine ⟨fun pins s' σ H' D I ⟨cc, C, ec, ed, hC, hmem, hσ, G, hq⟩ => ?_⟩
    subst ec
    subst ed
    obtain ⟨vs, hvs⟩ := hf
    have hot : Hot1 ((cxOf C8.CX0 X.prog X.w X.K X.mg X.base ["deed", "e"] "_law_told" sg g cdv X.A X.stack s H C8.E0).nox.suite a ((a, oe) :: pn)).A (a, oe) := ⟨rfl, vs, hvs, hz.2.2 vs hvs⟩
    have he : PE ((cxOf C8.CX0 X.prog X.w X.K X.mg X.base ["deed", "e"] "_law_told" sg g cdv X.A X.stack s H C8.E0).nox.suite a ((a, oe) :: pn)) (.Name "e" p6) (tVar 1) := pe_var rfl (.inl l1)
    have hrh : RoomH (k + 1) ((cxOf C8.CX0 X.prog X.w X.K X.mg X.base ["deed", "e"] "_law_told" sg g cdv X.A X.stack s H C8.E0).nox.suite a ((a, oe) :: pn)).A := by
      have h := (roomH_of hrm).mono (show k + 1 ≤ k + 2 by omega)
      exact ⟨h.dp, h.un⟩
    exact (pss_one (ps_ret (pos := p8) (pe_hot (X := (cxOf C8.CX0 X.prog X.w X.K X.mg X.base ["deed", "e"] "_law_told" sg g cdv X.A X.stack s H C8.E0).nox.suite a ((a, oe) :: pn)) (k := k) (ι := { G : Gd // G.T = T }) (t := fun G => tS G.1 W0 (mb a cc)) t1 t2 hot List.mem_cons_self hrh l3 t3 t4 he
      (fun cdv2 s2 H2 G2 r2 => t5 cc hmem C hC cdv2 _ _ s2 H2 a oe G2.1 G2.2 r2 hot hz.zc ⟨vs, hvs⟩)))).run pins s' σ H' D I ⟨hσ, G, hq⟩
  · refine ⟨_, fun cls d σ' H' ⟨b, e1, e2, e3⟩ hl => ⟨b, e1, fun hb a ha => ?_, fun hb => e3 hb⟩, rfl, hco, ht⟩
    obtain ⟨cc, C, x1, x2, x3, x4, G, x5⟩ := e2 hb a ha
    refine ⟨cc, C, x1, x2, x3, x4, ?_, G, x5⟩
    rw [List.getElem?_set]
    simp [hl]
theorem de_told (TO : TermOk X.prog X.w T X.mg X.base k cs) (hx : ∀ c ∈ cs, ∀ C, T.exc c = some C → PySem.W.exmOne T.K (.ref C) (.ref CS) = some true) (hCS : X.mg "StepError" = some (.ref CS)) (F : FunD T.K "_law_told" "_law_told" pg (toldB p1 p2 p3 p4 p5 p6 p7 p8 p9 p10) sg [] [] g fd)
    (hm : X.mg "_law_told" = some (.ref g)) (hb : L2.Binds T.K fd ["deed"] []) (Sg : FnScope ["deed", "e"] ["deed"] sg) (l0 : sg.names.lookup (Str.ofString "deed") = some .local) (l1 : sg.names.lookup (Str.ofString "e") = some .local) (l2 : sg.names.lookup (Str.ofString "StepError") = some .globalImplicit) (l3 : sg.names.lookup (Str.ofString "_law_term") = some .globalImplicit)
    (TB : TabB X.base X.mg c P) (hcode : X.env.code = .ref c) (hmT : (P, X.env.qual ++ "<lambda>") ∈ T.tabs) (hu : ∀ p ∈ T.tabs, p.1 = P → p.2 = X.env.qual ++ "<lambda>") (hr : Room (k + 3) X.A) (L : LamS X.env.scope scope) (hdef : defaultsOf params X.env = ([], []))
    (hbind : ∀ (q : Str) (cl : List (Str × Addr)) (pm cv ctv : Value), bindArgs (PySem.W.kla_fn "<lambda>" q params body scope cl pm cv ctv) ⟨[], []⟩ = pure [])
    (hbody : ∀ (A : Around) (outer : List PySem.Env) (s : Shared) (H : Hp) (E : XK) (f c' : Addr), Room (k + 1) (A.deeper (lamEnv X scope s.heap.objs.size f c')) → PE (lamN X A outer s H E scope f c') body (tD ⟨T, H0, F0, OA, V0⟩ (wOf E) m))
    (hK : X.K = T.K := by rfl) (hg : Gl X "_law_told" := by rfl) : PE X (.Call (.Name "_law_told" p) [.Lambda params body scope lpos] [] pos) (tD ⟨T, H0, F0, OA, V0⟩ W (eTold cs m)) := by
  obtain ⟨ft, fdt, pt, bt, st, N, mb, t1, t2, t3, t4, t5, t6⟩ := TO.ex
  rw [← hK] at t1 t4 t5 F hb hx
  refine PE.imp (pe_lamN (k := k + 1) (T := T.tabs) (a := "deed") F hg hm hb Sg rfl (.inl l0) (told_gives t1 t2 t3 t4 t5 hCS Sg.nd l1 l2 l3) TB hcode hmT hu hr L hdef hbind hbody) fun σ H Q ⟨FF, env, ad, sr, pq⟩ => ⟨sr.tab.tabs, fun H1 gr T1 => ⟨FF, env, ad, sr.grown gr T1, ?_⟩⟩
  unfold eTold at pq
  cases q : m env with
  | bad => rw [q] at pq; exact pq.elim
  | ok d e => rw [q] at pq; exact pq
  | exc cc e =>
    rw [q] at pq
    simp only at pq
    by_cases hc : cs.elem cc = true
    · rw [if_pos hc] at pq
      have hmem : cc ∈ cs := List.elem_iff.mp hc
      intro C H' F' ad' hC le sr'
      refine ⟨true, hx cc hmem C hC, fun _ a ha => ⟨cc, C, rfl, rfl, hC, hmem, ⟨gd T H' F' [] [.ref a], rfl⟩, ?_⟩, fun z => by cases z⟩
      obtain ⟨e', he'⟩ := t6 cc hmem a
      have se := sr'.enter (OA := []) (vs := [.ref a]) (ss := [.dat (.raw (.ref a))]) (adc := fun _ => []) rfl (fun j s hj => ?_) (fun _ _ => rfl) (fun _ _ _ z => by cases z) (fun _ _ z => by cases z)
      · refine ⟨F', _, _, se.begin N.length, ?_⟩
        show PostS _ _ _ _ (mb a cc (.dat (.raw (.ref a)) :: List.replicate (N.length - 1) .emp))
        rw [he']
        intro σ2 H2 F2 ad2 v le2 sr2 rv
        have lv := sr'.leave sr2 e.length fun a ha => by cases ha
        rw [List.set_eq_of_length_le (Nat.le_refl _)] at lv
        exact pq H2 F2 _ (le.trans le2) lv v rv
      · cases j with
        | zero =>
          cases hj
          exact ⟨rfl, _, rfl, .raw _⟩
        | succ j => cases hj
    · rw [if_neg hc] at pq
      exact pq.elim
end
end DL
set_option Elab.async false
set_option linter.all false
set_option maxRecDepth 100000
set_option maxHeartbeats 2000000
namespace DL
open PySem PySem.Spec PyProof.Rows L2 L2H HotX LamX
abbrev tbOf (K : PySem.W.Frag) (tabs : List (Addr × Str)) (w : World) : Tb := ⟨K, fun c => some (He.ga K c), fun c => some (He.ga K c), tabs, w⟩
theorem _root_.L2.Room.u65 {k : Nat} {A : Around} (r : Room k A) : A.units + 65 < cLine := by have := r.un; omega
section
variable {P : Program} {w : World} {T : Tb} {mg : Str → Option Value} {base : Heap} {x qual c m : Str} {params : Arguments} {body : List Stmt} {scope : Scope} {f : Addr} {fd : FuncData} {N ps : List Str} {k n : Nat} {mb : Env → Fl} {φ : Fn}
def Body (P : Program) (w : World) (T : Tb) (mg : Str → Option Value) (base : Heap) (N : List Str) (qual : Str) (scope : Scope) (f : Addr) (k : Nat) (body : List Stmt) (mb : Env → Fl) : Prop :=
  ∀ (cdv : Value) (A : Around) (outer : List PySem.Env) (s : Shared) (H : Hp) (E : XK) (H0 F0 : Hp) (OA : List Addr) (V0 : L2.St), Room k (A.deeper (envOfC qual scope s.heap.objs.size f cdv)) →
    PSs (cxOf (L2N.CX P w) P w T.K mg base N qual scope f cdv A outer s H E) body (tS ⟨T, H0, F0, OA, V0⟩ (wOf E) mb)
theorem cal_of (F : FunD T.K x qual params body scope [] [] f fd) (SC : FnScope N ps scope) (hm : mg x = some (.ref f)) (hb : Binds T.K fd ps []) (h : Body P w T mg base N qual scope f k body mb) : Cal P w T mg base (k + 1) x ps.length (fnD N.length mb) :=
  ⟨f, fd, ps, fn_ok F SC h, hm, F.kp, hb⟩
theorem calC_of {C : Addr} (F : FunD T.K x qual params body scope [] [] f fd) (SC : FnScope N ps scope) (hc : T.cls c = some C) (hm : mg c = some (.ref C)) (hM : Mk T.K C f) (hb : Binds T.K fd ps []) (h : Body P w T mg base N qual scope f k body mb) : CalC P w T mg base (k + 1) c ps.length (fnD N.length mb) :=
  ⟨C, f, fd, ps, hc, hm, hM, fn_ok F SC h, hb⟩
def BodyC (P : Program) (w : World) (T : Tb) (mg : Str → Option Value) (base : Heap) (N : List Str) (qual : Str) (scope : Scope) (f : Addr) (ca : Addr) (k : Nat) (body : List Stmt) (mb : Env → Fl) : Prop :=
  ∀ (A : Around) (outer : List PySem.Env) (s : Shared) (H : Hp) (E : XK) (H0 F0 : Hp) (OA : List Addr) (V0 : L2.St), Room k (A.deeper (envOfC qual scope s.heap.objs.size f (.ref ca))) →
    PSs (cxOf (L2N.CX P w) P w T.K mg base N qual scope f (.ref ca) A outer s H E) body (tS ⟨T, H0, F0, OA, V0⟩ (wOf E) mb)
theorem fun_code {K : PySem.W.Frag} {p : Str × Option Str} (F : FunD K x qual params body scope [] [] (He.fAd K p) fd) : ∃ (oc : Value) (od : Option Addr) (dV kV doc pm : Value) (an : Option Addr) (ct : Value) (osl : Array (Option Value)), fd = PySem.W.fnOf x qual params body scope dV kV doc pm an (.ref (He.codeOf K p)) ct ∧
    K.lookup (He.fAd K p) = some ⟨oc, od, .func fd, osl⟩ ∧ PySem.W.codeIn K (.ref (He.codeOf K p)) qual = true := by
  obtain ⟨oc, od, dV, kV, doc, pm, an, cdv, ct, osl, rfl, lk, hcd, _, _⟩ := F.ex
  obtain ⟨ca, rfl⟩ := He.codeIn_ref hcd
  have e := He.codeOf_eq lk rfl
  rw [e]
  exact ⟨oc, od, dV, kV, doc, pm, an, ct, osl, rfl, lk, hcd⟩
theorem fn_okC {p : Str × Option Str} (F : FunD T.K x qual params body scope [] [] (He.fAd T.K p) fd) (SC : FnScope N ps scope) (h : BodyC P w T mg base N qual scope (He.fAd T.K p) (He.codeOf T.K p) k body mb) : FnOk P w T.K mg base (L2N.CX P w) (k + 1) (He.fAd T.K p) fd ps (spF T ps.length (fnD N.length mb)) := by
  obtain ⟨oc, od, dV, kV, doc, pm, an, ct, osl, rfl, lk, hcd⟩ := fun_code F
  refine fn_of lk hcd SC (fun vs H Q E h => h.len) fun A outer s H vs Q E hr hsp => ?_
  exact body_run SC (h A outer s H E) hr hsp
theorem cal_ofC {p : Str × Option Str} (F : FunD T.K x qual params body scope [] [] (He.fAd T.K p) fd) (SC : FnScope N ps scope) (hm : mg x = some (.ref (He.fAd T.K p))) (hb : Binds T.K fd ps []) (h : BodyC P w T mg base N qual scope (He.fAd T.K p) (He.codeOf T.K p) k body mb) : Cal P w T mg base (k + 1) x ps.length (fnD N.length mb) :=
  ⟨_, fd, ps, fn_okC F SC h, hm, F.kp, hb⟩
def noFn : Fn := fun _ => .bad
theorem noFn_sp {vs : List V} {H : Hp} {Q : VK} {E : XK} (h : spF T n noFn vs H Q E) : False := by
  obtain ⟨F, args, ad, OA, _, _, _, q⟩ := h
  exact q
theorem cal_no (F : FunD T.K x qual params body scope [] [] f fd) (hm : mg x = some (.ref f)) (hb : Binds T.K fd ps []) : Cal P w T mg base k x ps.length noFn :=
  ⟨f, fd, ps, ⟨fun vs H Q E h => (noFn_sp h).elim, fun A outer s H args us vs Q E _ _ _ _ h => (noFn_sp h).elim⟩, hm, F.kp, hb⟩
theorem Cal.mono (h : Cal P w T mg base n x k φ) {j : Nat} (hj : n ≤ j) : Cal P w T mg base j x k φ := by
  obtain ⟨f, fd, ps, h1, h2, h3, h4⟩ := h.ex
  exact ⟨f, fd, ps, ⟨h1.len, fun A outer s H args us vs Q E hr => h1.run A outer s H args us vs Q E (hr.mono hj)⟩, h2, h3, h4⟩
end
theorem gd_el (G : Gd) {T : Tb} {V : L2.St} (h1 : G.T = T) (h2 : G.V0 = V) : G = ⟨T, G.H0, G.F0, G.OA, V⟩ := by
  subst h1 h2
  rfl
theorem gr_el {S : Gd} (G : Gr S) : G.1 = ⟨S.T, G.1.H0, G.1.F0, G.1.OA, S.V0⟩ := gd_el G.1 G.2.1 G.2.2
section
variable {X : Cx} {T : Tb} {H0 F0 : Hp} {OA : List Addr} {V0 : L2.St} {W : WX} {elt tg iter : Expr} {ifs : List Expr} {scope : Scope} {own : List (Str × Nat)} {pos : Pos} {mi : M (List D)} {m te : M D} {tt : M Bool} {f : Tg} {js : List Nat}
theorem do_lcT (hc : X.calm = true) (hN : X.N.Nodup) (hi : PI X tg iter (tI ⟨T, H0, F0, OA, V0⟩ W mi)) (ok : BlkOk X.N X.env.scope scope own)
    (hg : ∀ (s : Shared) (H : Hp) (C : Addr) (cl : List (Str × Addr)) (fp : List Addr) (H0 F0 : Hp) (OA : List Addr), PG (X.blk s H scope (compEnvC scope cl C X.env) fp) tg (tG ⟨T, H0, F0, OA, V0⟩ js f))
    (ht : ∀ (s : Shared) (H : Hp) (C : Addr) (cl : List (Str × Addr)) (fp : List Addr) (H0 F0 : Hp) (OA : List Addr), PTs (X.blk s H scope (compEnvC scope cl C X.env) fp) ifs (tT ⟨T, H0, F0, OA, V0⟩ W0 tt))
    (he : ∀ (s : Shared) (H : Hp) (C : Addr) (cl : List (Str × Addr)) (fp : List Addr) (H0 F0 : Hp) (OA : List Addr), PE (X.blk s H scope (compEnvC scope cl C X.env) fp) elt (tD ⟨T, H0, F0, OA, V0⟩ W0 te))
    (hj : ∀ j ∈ js, j ∈ own.map (·.2) := by decide) (hs : ∀ x, foldedSetIterable iter X.env x = pure x := by intro _; rfl) : PE X (.ListComp elt [⟨tg, iter, ifs, 0⟩] scope pos) (tO ⟨T, H0, F0, OA, V0⟩ W (oLc (own.map (·.2)) mi f tt te)) :=
  do_lc hc hN hi ok (fun s H C cl fp G => by rw [gr_el G]; exact hg s H C cl fp _ _ _) (fun s H C cl fp G => by rw [gr_el G]; exact ht s H C cl fp _ _ _) (fun s H C cl fp G => by rw [gr_el G]; exact he s H C cl fp _ _ _) hj hs
theorem do_lcHT (hot : HotC X) (hN : X.N.Nodup) (hi : PE X iter (tD ⟨T, H0, F0, OA, V0⟩ W m)) (ok : BlkOk X.N X.env.scope scope own)
    (hg : ∀ (s : Shared) (H : Hp) (C : Addr) (cl : List (Str × Addr)) (fp : List Addr) (H0 F0 : Hp) (OA : List Addr), PG (X.blk s H scope (compEnvC scope cl C X.env) fp) tg (tG ⟨T, H0, F0, OA, V0⟩ js f))
    (ht : ∀ (s : Shared) (H : Hp) (C : Addr) (cl : List (Str × Addr)) (fp : List Addr) (H0 F0 : Hp) (OA : List Addr), PTs (X.blk s H scope (compEnvC scope cl C X.env) fp) ifs (tT ⟨T, H0, F0, OA, V0⟩ W0 tt))
    (he : ∀ (s : Shared) (H : Hp) (C : Addr) (cl : List (Str × Addr)) (fp : List Addr) (H0 F0 : Hp) (OA : List Addr), PE (X.blk s H scope (compEnvC scope cl C X.env) fp) elt (tD ⟨T, H0, F0, OA, V0⟩ W0 te))
    (hj : ∀ j ∈ js, j ∈ own.map (·.2) := by decide) (hK : X.K = T.K := by rfl) (hs : ∀ x, foldedSetIterable iter X.env x = pure x := by intro _; rfl) : PE X (.ListComp elt [⟨tg, iter, ifs, 0⟩] scope pos) (tO ⟨T, H0, F0, OA, V0⟩ W (oLc (own.map (·.2)) (iLst m) f tt te)) :=
  do_lcH hot hN hi ok (fun s H C cl fp G => by rw [gr_el G]; exact hg s H C cl fp _ _ _) (fun s H C cl fp G => by rw [gr_el G]; exact ht s H C cl fp _ _ _) (fun s H C cl fp G => by rw [gr_el G]; exact he s H C cl fp _ _ _) hj hK hs
theorem ds_setLcT {i : Nat} {y : Str} {py spos : Pos} (hc : X.calm = true) (hN : X.N.Nodup) (hy : X.N[i]? = some y) (hyl : X.env.scope.names.lookup y = some .local) (hsw : swapsWith (.ListComp elt [⟨tg, iter, ifs, 0⟩] scope pos) (some (.Name y py)) spos.line X.env = pure true)
    (hi : PI X tg iter (tI ⟨T, H0, F0, OA, V0⟩ W mi)) (ok : BlkOk X.N X.env.scope scope own)
    (hg : ∀ (s : Shared) (H : Hp) (C : Addr) (cl : List (Str × Addr)) (fp : List Addr) (H0 F0 : Hp) (OA : List Addr), PG (X.blk s H scope (compEnvC scope cl C X.env) fp) tg (tG ⟨T, H0, F0, OA, V0⟩ js f))
    (ht : ∀ (s : Shared) (H : Hp) (C : Addr) (cl : List (Str × Addr)) (fp : List Addr) (H0 F0 : Hp) (OA : List Addr), PTs (X.blk s H scope (compEnvC scope cl C X.env) fp) ifs (tT ⟨T, H0, F0, OA, V0⟩ W0 tt))
    (he : ∀ (s : Shared) (H : Hp) (C : Addr) (cl : List (Str × Addr)) (fp : List Addr) (H0 F0 : Hp) (OA : List Addr), PE (X.blk s H scope (compEnvC scope cl C X.env) fp) elt (tD ⟨T, H0, F0, OA, V0⟩ W0 te))
    (hj : ∀ j ∈ js, j ∈ own.map (·.2) := by decide) (hs : ∀ x, foldedSetIterable iter X.env x = pure x := by intro _; rfl) : PS X (.Assign [.Name y py] (.ListComp elt [⟨tg, iter, ifs, 0⟩] scope pos) spos) (tS ⟨T, H0, F0, OA, V0⟩ W (sOwn (oLc (own.map (·.2)) mi f tt te) i)) :=
  ds_setLc hc hN hy hyl hsw hi ok (fun s H C cl fp G => by rw [gr_el G]; exact hg s H C cl fp _ _ _) (fun s H C cl fp G => by rw [gr_el G]; exact ht s H C cl fp _ _ _) (fun s H C cl fp G => by rw [gr_el G]; exact he s H C cl fp _ _ _) hj hs
end
theorem xc_of {K : PySem.W.Frag} {h : Heap} {mg : Str → Option Value} {tabs : List (Addr × Str)} {w : World} {x : Str} (X : K.In h) (G : h.Ns mainGlobals mg) (c1 : (He.Fa.glo x).ok K = true) (c2 : (He.Fa.exc x).ok K = true) : Xc (tbOf K tabs w) mg x := by
  obtain ⟨h1, h2, h3, h4⟩ := He.exc_ok c2
  exact ⟨_, rfl, He.glo_ok X G c1, h1, h2, h3, h4⟩
end DL
set_option Elab.async false
set_option linter.all false
set_option maxRecDepth 100000
set_option maxHeartbeats 2000000
namespace DL
open PySem PySem.Spec PyProof.Rows L2 L2H HotX LamX
abbrev parR (ns : List Int) (hi : Int) : List DL.Slot := [DL.Slot.dat (D.scr ns), DL.Slot.dat (D.int hi)]
abbrev envR (ns : List Int) (hi : Int) (n : Nat) : DL.Env := parR ns hi ++ List.replicate n DL.Slot.emp
structure Nest (H0 H F : Hp) (ad : Nat → List Addr) (b : Addr) (as : List Addr) (cz : Nat → Int) : Prop where
  nd : (b :: as).Nodup
  out : H b = some (.lst (as.map V.ref))
  inn : ∀ (j : Nat) (x : Addr), as[j]? = some x → H x = some (.lst [.int (cz j), .int 0])
  new : ∀ x ∈ b :: as, H0 x = none ∧ F x = none ∧ ∀ j, x ∉ ad j
def spRounds (T : Tb) (φ : Fn) (mx : M (List D)) (n : Nat) (cz : List Int → Nat → Int) (cnt : List Int → Int → Nat) : Sp := fun vs H Q _ => ∃ F ad ns hi, vs.length = 2 ∧ SR (gd T H F [] vs) (vs.map some) H F (parR ns hi) ad ∧
  mx (envR ns hi n) = .ok (rangeD 0 (cnt ns hi)) (envR ns hi n) ∧ cnt ns hi ≤ 1000 ∧
  (∀ k, k < cnt ns hi → φ [.dat (.scr ns), .dat (.int k)] = .rt (.int (cz ns k)) [.dat (.scr ns), .dat (.int k)]) ∧
  ∀ b as H' F' ad', Le F F' → SR (gd T H F [] vs) (vs.map some) H' F' (parR ns hi) ad' → as.length = cnt ns hi → Nest H H' F' ad' b as (cz ns) → Q (.ref b) H'
theorem Nest.call {S : Gd} {H0 H F H' F' : Hp} {ad : Nat → List Addr} {b : Addr} {as : List Addr} {cz : Nat → Int} {τ V0 : L2.St} {ss : Env} {adc : Nat → List Addr} {i : Nat} (h : Nest H0 H F ad b as cz) (c : SR ⟨S.T, H, F, [], V0⟩ τ H' F' ss adc) : Nest H0 H' F' (setA ad i []) b as cz := by
  refine ⟨h.nd, c.keep _ _ (by simp) h.out (fun _ z => by cases z), fun j x e => c.keep _ _ (by simp) (h.inn j x e) (fun _ z => by cases z), fun x hx => ?_⟩
  obtain ⟨n1, n2, n3⟩ := h.new x hx
  refine ⟨n1, ?_, fun j hj => ?_⟩
  · cases q : F' x with
    | none => rfl
    | some o =>
      have hx2 : H x ≠ none := by
        rcases List.mem_cons.mp hx with z | z
        · rw [z, h.out]; exact fun z => by cases z
        · obtain ⟨j, hj⟩ := List.getElem?_of_mem z
          rw [h.inn j x hj]; exact fun z => by cases z
      rcases c.old x o q with y | y | y
      · have y : F x = some o := y
        rw [n2] at y; cases y
      · exact absurd y hx2
      · cases y
  · by_cases z : j = i
    · rw [z, setA_same] at hj
      cases hj
    · rw [setA_ne z] at hj
      exact n3 j hj
theorem SR.noads {S : Gd} {σ : L2.St} {H F : Hp} {env : DL.Env} {ad : Nat → List Addr} (h : SR S σ H F env ad) (hd : ∀ s ∈ env, handed s = true ∧ isLent s = false) (j : Nat) : ad j = [] := by
  by_cases hj : j < env.length
  · have q := h.at_ j _ (List.getElem?_eq_getElem hj)
    obtain ⟨h1, h2⟩ := hd _ (List.getElem_mem hj)
    generalize env[j] = s at q h1 h2
    cases s with
    | dat d => exact q.1
    | emp => exact q
    | own _ => cases h1
    | lent _ => cases h2
  · exact h.out j (by omega)
theorem Nest.more {S : Gd} {σ : L2.St} {H F : Hp} {env : DL.Env} {ad : Nat → List Addr} {b p : Addr} {as : List Addr} {cz : Nat → Int} (h : Nest S.H0 H F ad b as cz) (sr : SR S σ H F env ad) (hp : H p = none) :
    let H5 := upd (upd H p (.lst [.int (cz as.length), .int 0])) b (.lst (as.map V.ref ++ [V.ref p]))
    SR S σ H5 F env ad ∧ Nest S.H0 H5 F ad b (as ++ [p]) cz := by
  intro H5
  have nb : b ≠ p := ne_of_none h.out hp
  have sr2 := sr.more (o := .lst [.int (cz as.length), .int 0]) hp
  have ob : upd H p (.lst [.int (cz as.length), .int 0]) b = some (.lst (as.map V.ref)) := by rw [upd_ne nb]; exact h.out
  obtain ⟨n1, n2, n3⟩ := h.new b List.mem_cons_self
  have sr3 := sr2.side (ys := as.map V.ref ++ [V.ref p]) ob n2 n3 n1
  have pas : p ∉ b :: as := fun z => by
    rcases List.mem_cons.mp z with y | y
    · exact nb y.symm
    · obtain ⟨j, hj⟩ := List.getElem?_of_mem y
      have := h.inn j p hj
      rw [hp] at this
      cases this
  refine ⟨sr3, ⟨?_, ?_, fun j x e => ?_, fun x hx => ?_⟩⟩
  · rw [← List.cons_append, List.nodup_append]
    refine ⟨h.nd, by simp, fun a ha c hc => ?_⟩
    have : c = p := by simpa using hc
    subst this
    exact fun z => pas (z ▸ ha)
  · show upd _ b _ b = _
    rw [upd_same, List.map_append]
    rfl
  · have hx : x ≠ b := fun z => by
      subst z
      have nd := h.nd
      rw [List.nodup_cons] at nd
      by_cases hj : j < as.length
      · rw [List.getElem?_append_left hj] at e
        exact nd.1 (List.mem_of_getElem? e)
      · rw [List.getElem?_append_right (by omega)] at e
        have : x = p := by
          have := List.mem_of_getElem? e
          simpa using this
        exact nb this
    show upd _ b _ x = _
    rw [upd_ne hx]
    by_cases hj : j < as.length
    · rw [List.getElem?_append_left hj] at e
      have q := h.inn j x e
      rw [upd_ne (ne_of_none q hp)]
      exact q
    · rw [List.getElem?_append_right (by omega)] at e
      have e3 : j - as.length = 0 := by
        cases q : j - as.length with
        | zero => rfl
        | succ m => rw [q] at e; simp at e
      rw [e3] at e
      have e4 : p = x := by simpa using e
      have e5 : j = as.length := by omega
      rw [← e4, e5, upd_same]
  · rw [← List.cons_append] at hx
    rcases List.mem_append.mp hx with z | z
    · exact h.new x z
    · have : x = p := by simpa using z
      subst this
      exact ⟨sr.dom x hp, sr.fnone hp, fun j hj => sr.somes hj hp⟩
theorem rounds_pure {T : Tb} {φ : Fn} {mx : M (List D)} {n : Nat} {cz : List Int → Nat → Int} {cnt : List Int → Int → Nat} {N : List Str} {vs : List V} {H : Hp} {Q : VK} {E E1 : XK} {W : WX} (hN : N.length = 2 + n) (hn : 1 ≤ n) (h : spRounds T φ mx n cz cnt vs H Q E) :
    ∃ F, tLc (tI ⟨T, H, F, [], vs.map some⟩ W mx) (gName 2) tYes (tLst (tCons (tCall (spF T 2 φ) [] E1 (tCons (tVar 0) (tCons (tVar 2) tNil))) (tCons (tC (.int 0)) tNil))) [2] (L2.start N vs) H Q := by
  obtain ⟨F, ad, ns, hi, hl, sr, hmx, hc, hφ, hQ⟩ := h
  obtain ⟨v0, v1, rfl⟩ : ∃ v0 v1, vs = [v0, v1] := by
    match vs, hl with
    | [a, b], _ => exact ⟨a, b, rfl⟩
  have hst : L2.start N [v0, v1] = [some v0, some v1] ++ List.replicate n none := by
    unfold L2.start
    rw [hN]
    simp
  have hsr := sr.begin N.length
  rw [hN] at hsr
  have e1 : 2 + n - [v0, v1].length = n := by simp
  have e2 : 2 + n - (parR ns hi).length = n := by simp
  rw [e1, e2] at hsr
  refine ⟨F, F, _, ad, (by rw [hst]; exact hsr), ?_⟩
  show Post _ _ _ _ (mx (envR ns hi n)) _
  rw [hmx]
  intro H1 F1 ad1 le1 sr1 J hJ D hD
  -- the state of the two parameters alone
  obtain ⟨_, w0, x0, r0⟩ := sr1.at_ 0 _ (rfl : (envR ns hi n)[0]? = _)
  obtain ⟨_, w1, x1, r1⟩ := sr1.at_ 1 _ (rfl : (envR ns hi n)[1]? = _)
  rw [hst] at x0 x1
  cases x0
  cases x1
  have dl : (rangeD 0 (cnt ns hi)).length = cnt ns hi := rangeD_length _ _
  refine ⟨fun i m Hc => m = cnt ns hi - i ∧ i ≤ cnt ns hi ∧ ∃ Fc adc as, Le F1 Fc ∧ SR ⟨T, H, F, [], [some v0, some v1]⟩ (L2.start N [v0, v1]) Hc Fc (envR ns hi n) adc ∧ as.length = i ∧ Nest H Hc Fc adc D as (cz ns), ⟨cnt ns hi, by simp, Nat.zero_le _, F1, ad1, [], Le.refl F1, sr1.more hD, rfl, ?_⟩, ?_⟩
  · refine ⟨by simp, upd_same, fun j x e => by simp at e, fun x hx => ?_⟩
    have : x = D := by simpa using hx
    subst this
    exact ⟨sr1.dom x hD, sr1.fnone hD, fun j hj => sr1.somes hj hD⟩
  rintro i m Hc ⟨rfl, hi2, Fc, adc, as, lec, src, las, nest⟩
  by_cases hlt : i < cnt ns hi
  · have hd : (rangeD 0 (cnt ns hi))[i]? = some (rangeD 0 (cnt ns hi))[i] := List.getElem?_eq_getElem (by rw [dl]; exact hlt)
    have hdi : (rangeD 0 (cnt ns hi))[i]? = some (.int i) := by
      have := (rangeD_get _ _ _ _ hd).2
      rw [hd, this]
      simp
    obtain ⟨g, y⟩ := (hJ Hc (lec.trans src.sub) i).1 _ hdi
    refine .inr ⟨g, fun H' => ∃ Fc adc as, Le F1 Fc ∧ SR ⟨T, H, F, [], [some v0, some v1]⟩ (L2.start N [v0, v1]) H' Fc (envR ns hi n) adc ∧ as.length = i + 1 ∧ Nest H H' Fc adc D as (cz ns), fun H' z => ⟨cnt ns hi - (i + 1), by omega, rfl, by omega, z⟩, fun x H' hy => ?_⟩
    have hx : H' = Hc ∧ x = .int i := by
      rcases y x H' hy with ⟨z1, z2⟩ | ⟨p, us, es, _, _, _, z, _⟩
      · cases z2
        exact ⟨z1, rfl⟩
      · cases z
    obtain ⟨rfl, rfl⟩ := hx
    show wipe _ _ = _ ∧ _
    obtain ⟨n', rfl⟩ : ∃ n', n = n' + 1 := ⟨n - 1, by omega⟩
    have hw : wipe (L2.start N [v0, v1]) [2] = L2.start N [v0, v1] := by
      rw [hst]
      rfl
    rw [hw]
    have hσ : (L2.start N [v0, v1]).set 2 (some (V.int i)) = [some v0, some v1, some (.int i)] ++ List.replicate n' none := by
      rw [hst]
      rfl
    refine ⟨?_, ?_⟩
    · rw [hσ, hst]
      rfl
    · rw [hσ]
      unfold tYes
      simp only [if_true]
      refine ⟨v0, rfl, .int i, rfl, ?_⟩
      unfold tNil
      simp only [List.append_nil]
      have en := src.enter (OA := []) (vs := [v0, .int i]) (ss := [.dat (.scr ns), .dat (.int i)]) (adc := fun _ => []) rfl (fun j s e => ?_) (fun _ _ => rfl) (fun _ _ _ z => by cases z) (fun _ _ z => by cases z)
      · refine ⟨Fc, _, _, [], rfl, en, rfl, ?_⟩
        rw [hφ i hlt]
        intro v H2 F2 ad2 le2 c rv
        cases rv
        refine ⟨by show 2 ≤ sizeLine; decide, fun p hp => ⟨as.map V.ref, ?_, ?_, ?_⟩⟩
        · have q := c.keep D _ (by simp) nest.out (fun _ z => by cases z)
          rw [upd_ne (ne_of_none q hp)]
          exact q
        · rw [List.length_map, las]
          exact size1m (by omega)
        · have lv := src.leave c (envR ns hi (n' + 1)).length fun a ha => by cases ha
          rw [List.set_eq_of_length_le (Nat.le_refl _)] at lv
          have nc := nest.call (S := ⟨T, H, F, [], [some v0, some v1]⟩) (i := (envR ns hi (n' + 1)).length) c
          rw [← las]
          obtain ⟨m1, m2⟩ := nc.more (S := ⟨T, H, F, [], [some v0, some v1]⟩) lv hp
          exact ⟨F2, _, as ++ [p], lec.trans le2, m1, by simp, m2⟩
      · cases j with
        | zero => cases e; exact ⟨rfl, _, rfl, r0.mono lec⟩
        | succ j =>
          cases j with
          | zero => cases e; exact ⟨rfl, _, rfl, .int _⟩
          | succ j => cases e
  · have e0 : i = cnt ns hi := by omega
    subst e0
    refine .inl ⟨(hJ Hc (lec.trans src.sub) _).2 dl.symm, ?_⟩
    have e4 : backA (parR ns hi) (envR ns hi n) = some (parR ns hi) := rfl
    obtain ⟨adf, srf⟩ := SR.back sr rfl src e4
    refine hQ D as Hc Fc adf (le1.trans lec) srf las ⟨nest.nd, nest.out, nest.inn, fun x hx => ⟨(nest.new x hx).1, (nest.new x hx).2.1, fun j hj => ?_⟩⟩
    rw [srf.noads (fun s hs => by
      have : s = .dat (.scr ns) ∨ s = .dat (.int hi) := by simpa using hs
      rcases this with z | z <;> rw [z] <;> exact ⟨rfl, rfl⟩) j] at hj
    cases hj
def roundsD (body : DL.Env → Fl) (n id : Nat) (cz : Nat → Int) : Nat → Nat → Fl
  | 0, _ => .nx (List.replicate n .emp)
  | r + 1, k => match body ((List.replicate n .emp).set id (.own (.ol [.int (cz k), .int 0]))) with
    | .nx e => if e.length = n then roundsD body n id cz r (k + 1) else .bad
    | .ct e => if e.length = n then roundsD body n id cz r (k + 1) else .bad
    | .rt d e => .rt d e
    | .exc c e => .exc c e
    | .bk _ => .bad
    | .bad => .bad
def sRounds (is id : Nat) (hi : Int) (cz : List Int → Nat → Int) (cnt : List Int → Int → Nat) (body : DL.Env → Fl) : DL.Env → Fl := fun env => match env[is]? with
  | some (.dat (.scr ns)) => if ns.length ≤ 63 ∧ id < env.length then roundsD body env.length id (cz ns) (cnt ns hi) 0 else .bad
  | _ => .bad
section
variable {S : Gd} {σ : L2.St} {H F Fx : Hp} {env : DL.Env} {ad : Nat → List Addr}
theorem SR.reset (h : SR S σ H Fx env ad) (sub : Le F H) (nt : ∀ a o, F a = some o → NoTbl o) (old : ∀ a o, F a = some o → S.F0 a = some o ∨ S.H0 a = none ∨ a ∈ S.OA) (le0 : Le S.F0 F) : SR S σ H F (List.replicate env.length .emp) (fun _ => []) := by
  refine ⟨by rw [List.length_replicate]; exact h.len, sub, fun i s e => ?_, fun _ _ => rfl, fun i j a z => (by cases z), fun i a z => (by cases z), h.keep, h.tab, nt, old, le0, h.dom, fun i o e => ?_⟩
  · rw [List.getElem?_replicate] at e
    split at e
    · cases e; rfl
    · cases e
  · rw [List.getElem?_replicate] at e
    split at e <;> cases e
end
def Fr (F : Hp) (b : Addr) (as : List Addr) (cz : Nat → Int) (i : Nat) : Hp := fun x => if x = b then some (.lst (as.map V.ref)) else match (as.drop (i + 1)).findIdx? (· == x) with
  | some j => some (.lst [.int (cz (i + 1 + j)), .int 0])
  | none => F x
theorem Fr_b {F : Hp} {b : Addr} {as : List Addr} {cz : Nat → Int} {i : Nat} : Fr F b as cz i b = some (.lst (as.map V.ref)) := if_pos rfl
theorem Fr_get {F : Hp} {b x : Addr} {as : List Addr} {cz : Nat → Int} {i : Nat} {o : HO} (h : Fr F b as cz i x = some o) : (x = b ∧ o = .lst (as.map V.ref)) ∨ (∃ j, i < j ∧ as[j]? = some x ∧ o = .lst [.int (cz j), .int 0]) ∨ F x = some o := by
  unfold Fr at h
  by_cases e : x = b
  · rw [if_pos e] at h
    cases h
    exact .inl ⟨e, rfl⟩
  · rw [if_neg e] at h
    cases q : (as.drop (i + 1)).findIdx? (· == x) with
    | none =>
      rw [q] at h
      exact .inr (.inr h)
    | some j =>
      rw [q] at h
      cases h
      obtain ⟨hj, he, _⟩ := List.findIdx?_eq_some_iff_getElem.mp q
      refine .inr (.inl ⟨i + 1 + j, by omega, ?_, rfl⟩)
      have e2 : (as.drop (i + 1))[j] = x := by simpa using he
      rw [← e2, List.getElem_drop]
      exact List.getElem?_eq_getElem _
theorem Fr_in {F : Hp} {b x : Addr} {as : List Addr} {cz : Nat → Int} {i j : Nat} (nd : (b :: as).Nodup) (hj : i < j) (h : as[j]? = some x) : Fr F b as cz i x = some (.lst [.int (cz j), .int 0]) := by
  have nx : x ≠ b := fun z => by
    rw [List.nodup_cons] at nd
    exact nd.1 (z ▸ List.mem_of_getElem? h)
  unfold Fr
  rw [if_neg nx]
  have hd : (as.drop (i + 1))[j - (i + 1)]? = some x := by rw [List.getElem?_drop, show i + 1 + (j - (i + 1)) = j by omega]; exact h
  cases q : (as.drop (i + 1)).findIdx? (· == x) with
  | none =>
    rw [List.findIdx?_eq_none_iff] at q
    have := q x (List.mem_of_getElem? hd)
    simp at this
  | some k =>
    obtain ⟨hk, he, _⟩ := List.findIdx?_eq_some_iff_getElem.mp q
    have e2 : (as.drop (i + 1))[k] = x := by simpa using he
    rw [List.getElem_drop] at e2
    have hk2 : i + 1 + k < as.length := by rw [List.length_drop] at hk; omega
    have e3 : as[i + 1 + k]? = some x := by rw [← e2]; exact List.getElem?_eq_getElem hk2
    have : i + 1 + k = j := by
      rw [List.nodup_cons] at nd
      have hj2 : j < as.length := (List.getElem?_eq_some_iff.mp h).1
      exact (List.getElem?_inj hk2 nd.2).mp (e3.trans h.symm)
    rw [← this]
theorem Fr_out {F : Hp} {b x : Addr} {as : List Addr} {cz : Nat → Int} {i : Nat} (nd : (b :: as).Nodup) (h : as[i]? = some x) : Fr F b as cz i x = F x := by
  have nx : x ≠ b := fun z => by
    rw [List.nodup_cons] at nd
    exact nd.1 (z ▸ List.mem_of_getElem? h)
  unfold Fr
  rw [if_neg nx]
  cases q : (as.drop (i + 1)).findIdx? (· == x) with
  | none => rfl
  | some k =>
    obtain ⟨hk, he, _⟩ := List.findIdx?_eq_some_iff_getElem.mp q
    have e2 : (as.drop (i + 1))[k] = x := by simpa using he
    rw [List.getElem_drop] at e2
    have hk2 : i + 1 + k < as.length := by rw [List.length_drop] at hk; omega
    have e3 : as[i + 1 + k]? = some x := by rw [← e2]; exact List.getElem?_eq_getElem hk2
    rw [List.nodup_cons] at nd
    have := (List.getElem?_inj hk2 nd.2).mp (e3.trans h.symm)
    omega
section
variable {X : Cx} {S : Gd} {W : WX} {E : XK} {x y : Str} {body : List Stmt} {p1 p2 p3 p4 p5 pos : Pos} {is id k n j4 : Nat} {hi : Int} {φ : Fn} {mx : M (List D)} {cz : List Int → Nat → Int} {cnt : List Int → Int → Nat} {mb : DL.Env → Fl} {f : Addr} {fd : FuncData} {CX : CXT}
theorem ds_rounds (FR : FnOk X.prog X.w X.K X.mg X.base CX k f fd ["script", "high"] (spRounds S.T φ mx n cz cnt)) (hr : Room k X.A) (hgl : Gl X "_law_rounds") (hm : X.mg "_law_rounds" = some (.ref f)) (hkp : PySem.W.keepIn X.K (.ref f) = true) (hb : Binds X.K fd ["script", "high"] []) (hpc : Passes CX X E)
    (hmx : ∀ ns : List Int, ns.length ≤ 63 → mx (envR ns hi n) = .ok (rangeD 0 (cnt ns hi)) (envR ns hi n)) (hcn : ∀ ns : List Int, ns.length ≤ 63 → cnt ns hi ≤ 1000)
    (hφ : ∀ ns : List Int, ns.length ≤ 63 → ∀ k, k < cnt ns hi → φ [.dat (.scr ns), .dat (.int k)] = .rt (.int (cz ns k)) [.dat (.scr ns), .dat (.int k)])
    (hp : PassesOwn (model X.prog X.w) X.A X.env X.xe) (hc : X.calm = true) (hs0 : PE X (.Name y p3) (tVar is)) (hN : X.N.Nodup) (hid : X.N[id]? = some x) (hx : Loc X.env.scope x) (hbody : PSs X body (tS S W mb)) (hK : X.K = S.T.K := by rfl)
    (hf : X.fn x = true ∨ X.env.scope.names.lookup x = some .local := by first | exact .inl rfl | exact .inr rfl | assumption) (hdb : ((Str.ofString "_law_rounds") == ("__debug__" : Str)) = false := by decide)
    (he : starEach [.Name y p3, .Constant (.int hi) j4 p4] X.env = (false, eval (.Name y p3) X.env) :: starEach [.Constant (.int hi) j4 p4] X.env := by rfl) (he2 : starEach [.Constant (.int hi) j4 p4] X.env = (false, eval (.Constant (.int hi) j4 p4) X.env) :: starEach [] X.env := by rfl)
    (hpl : (backTo p5 (starEach [.Constant (.int hi) j4 p4] X.env)).any (·.1) = false := by rfl) (hfs : ∀ z, foldedSetIterable (.Call (.Name "_law_rounds" p2) [.Name y p3, .Constant (.int hi) j4 p4] [] p5) X.env z = pure z := by intro _; rfl) :
    PS X (.For (.Name x p1) (.Call (.Name "_law_rounds" p2) [.Name y p3, .Constant (.int hi) j4 p4] [] p5) body [] pos) (tS S W (sRounds is id hi cz cnt mb)) := by
  refine PS.imp (ps_for hp hc (pi_list (pe_call FR hr hgl hm hkp hb .nil hpc (pa_cons hs0 (pa_cons pe_int pa_nil he2) he) hdb he hpl)) (pg_name (i := id) hN hid hx hf) hbody hfs) fun d σ H ⟨F, env, ad, sr, p⟩ => ?_
  unfold sRounds at p
  cases q : env[is]? with
  | none => rw [q] at p; exact p.elim
  | some sl =>
    rw [q] at p
    cases sl with
    | emp => exact p.elim
    | own _ => exact p.elim
    | lent _ => exact p.elim
    | dat dd =>
      cases dd with
      | scr ns =>
        simp only at p
        by_cases hns : ns.length ≤ 63 ∧ id < env.length
        case neg => rw [if_neg hns] at p; exact p.elim
        rw [if_pos hns] at p
        obtain ⟨_, v, hv, rv⟩ := sr.at_ is _ q
        refine ⟨v, hv, ?_⟩
        unfold tCons tC tNil
        simp only [List.append_nil]
        have en := sr.enter (OA := []) (vs := [v, .int hi]) (ss := parR ns hi) (adc := fun _ => []) rfl (fun j s e => ?_) (fun _ _ => rfl) (fun _ _ _ z => by cases z) (fun _ _ z => by cases z)
        case refine_1 =>
          cases j with
          | zero => cases e; exact ⟨rfl, _, rfl, rv⟩
          | succ j =>
            cases j with
            | zero => cases e; exact ⟨rfl, _, rfl, .int _⟩
            | succ j => cases e
        refine ⟨F, _, ns, hi, rfl, en, hmx ns hns.1, hcn ns hns.1, hφ ns hns.1, fun b as H1 F1 ad1 le1 c las nest => ⟨b, rfl, ⟨_, by rw [hK]; exact SqL.of nest.out⟩, ?_⟩⟩
        have lv := sr.leave c env.length fun a ha => by cases ha
        rw [List.set_eq_of_length_le (Nat.le_refl _)] at lv
        have fresh : ∀ z ∈ b :: as, S.H0 z = none ∧ F z = none := fun z hz => by
          have h0 : H z = none := (nest.new z hz).1
          exact ⟨sr.dom z h0, sr.fnone h0⟩
        refine ⟨fun i m σ' Hc => m = as.length - i ∧ i ≤ as.length ∧ PostS S W F d (roundsD mb env.length id (cz ns) (as.length - i) i) ∧ Hc b = some (.lst (as.map V.ref)) ∧ (∀ j z, i ≤ j → as[j]? = some z → Hc z = some (.lst [.int (cz ns j), .int 0])) ∧ Le F Hc ∧ ∃ Fx envx adx, envx.length = env.length ∧ SR S σ' Hc Fx envx adx,
          ⟨as.length, by simp, Nat.zero_le _, by rw [las]; exact p, nest.out, fun j z _ e => nest.inn j z e, le1.trans c.sub, F1, env, _, rfl, lv⟩, ?_⟩
        rintro i m σ' Hc ⟨rfl, hi2, pr, hob, hin, leF, Fx, envx, adx, lenx, srx⟩
        -- the state of a round, all forgotten
        have leR : Le (Fr F b as (cz ns) i) Hc := fun z o e => by
          rcases Fr_get e with ⟨e1, e2⟩ | ⟨j, hj, e1, e2⟩ | e1
          · rw [e1, e2]; exact hob
          · rw [e2]; exact hin j z (by omega) e1
          · exact leF z o e1
        have leFr : Le F (Fr F b as (cz ns) i) := fun z o e => by
          unfold Fr
          have nb : z ≠ b := fun w => by
            have := (fresh b List.mem_cons_self).2
            rw [← w, e] at this; cases this
          rw [if_neg nb]
          cases q2 : (as.drop (i + 1)).findIdx? (· == z) with
          | none => exact e
          | some j =>
            obtain ⟨hj, he, _⟩ := List.findIdx?_eq_some_iff_getElem.mp q2
            have e2 : (as.drop (i + 1))[j] = z := by simpa using he
            have hz : z ∈ as := by rw [← e2]; exact List.mem_of_mem_drop (List.getElem_mem _)
            have := (fresh z (List.mem_cons_of_mem _ hz)).2
            rw [e] at this; cases this
        have srr := srx.reset (F := Fr F b as (cz ns) i) leR (fun z o e => by
          rcases Fr_get e with ⟨_, e2⟩ | ⟨j, hj, _, e2⟩ | e1
          · rw [e2]; exact fun _ w => by cases w
          · rw [e2]; exact fun _ w => by cases w
          · exact sr.notb z o e1) (fun z o e => by
          rcases Fr_get e with ⟨e1, _⟩ | ⟨j, hj, e1, _⟩ | e1
          · rw [e1]; exact .inr (.inl (fresh b List.mem_cons_self).1)
          · exact .inr (.inl (fresh z (List.mem_cons_of_mem _ (List.mem_of_getElem? e1))).1)
          · exact sr.old z o e1) (sr.le0.trans leFr)
        rw [lenx] at srr
        by_cases hlt : i < as.length
        · have ha : as[i]? = some as[i] := List.getElem?_eq_getElem hlt
          have hil : (as.map V.ref)[i]? = some (V.ref as[i]) := by rw [List.getElem?_map, ha]; rfl
          obtain ⟨r', er⟩ : ∃ r', as.length - i = r' + 1 := ⟨as.length - i - 1, by omega⟩
          rw [er] at pr
          unfold roundsD at pr
          have nexts : ∀ (σ4 : L2.St) (H4 F4 : Hp) (e4 : DL.Env) (ad4 : Nat → List Addr), e4.length = env.length → Le (Fr F b as (cz ns) i) F4 → SR S σ4 H4 F4 e4 ad4 → PostS S W F d (roundsD mb env.length id (cz ns) r' (i + 1)) → ∃ m', m' < r' + 1 ∧ (m' = as.length - (i + 1) ∧ i + 1 ≤ as.length ∧ PostS S W F d (roundsD mb env.length id (cz ns) (as.length - (i + 1)) (i + 1)) ∧ H4 b = some (.lst (as.map V.ref)) ∧ (∀ j z, i + 1 ≤ j → as[j]? = some z → H4 z = some (.lst [.int (cz ns j), .int 0])) ∧ Le F H4 ∧ ∃ Fx envx adx, envx.length = env.length ∧ SR S σ4 H4 Fx envx adx) := fun σ4 H4 F4 e4 ad4 hl4 le4 sr4 pr4 => by
            have er2 : as.length - (i + 1) = r' := by omega
            refine ⟨as.length - (i + 1), by omega, rfl, hlt, by rw [er2]; exact pr4, sr4.sub _ _ (le4 _ _ Fr_b), fun j z hj e => sr4.sub _ _ (le4 _ _ (Fr_in nest.nd (by omega) e)), (leFr.trans le4).trans sr4.sub, F4, e4, ad4, hl4, sr4⟩
          refine .inr ⟨⟨_, _, by rw [hK]; exact SqL.of hob, hil⟩, fun σ4 H4 => ∃ m', m' < r' + 1 ∧ (m' = as.length - (i + 1) ∧ i + 1 ≤ as.length ∧ PostS S W F d (roundsD mb env.length id (cz ns) (as.length - (i + 1)) (i + 1)) ∧ H4 b = some (.lst (as.map V.ref)) ∧ (∀ j z, i + 1 ≤ j → as[j]? = some z → H4 z = some (.lst [.int (cz ns j), .int 0])) ∧ Le F H4 ∧ ∃ Fx envx adx, envx.length = env.length ∧ SR S σ4 H4 Fx envx adx), fun σ4 H4 z => by rw [er]; exact z, fun w H' hy => ?_⟩
          obtain ⟨rfl, hy2⟩ := hy
          have hw : some (V.ref as[i]) = some w := by
            have := hy2 _ (by rw [hK]; exact SqL.of hob)
            rw [hil] at this
            exact this
          cases hw
          have hai := hin i as[i] (Nat.le_refl _) ha
          have srd := srr.put id (some (.ref as[i])) (.own (.ol [.int (cz ns i), .int 0])) [as[i]] rfl (fun _ => ⟨_, rfl, rfl, _, hai, .cons (.int _) (.one (.int _))⟩) (fun hl => by rw [List.length_replicate] at hl; omega) (fun j a _ _ z => by cases z) (fun a hae => by
            have : a = as[i] := by simpa using hae
            subst this
            exact ⟨by rw [Fr_out nest.nd ha]; exact (fresh _ (List.mem_cons_of_mem _ (List.getElem_mem _))).2, .inl (fresh _ (List.mem_cons_of_mem _ (List.getElem_mem _))).1⟩)
          refine ⟨_, _, _, srd, ?_⟩
          cases q4 : mb ((List.replicate env.length .emp).set id (.own (.ol [.int (cz ns i), .int 0]))) with
          | nx e4 =>
            rw [q4] at pr
            simp only at pr
            by_cases hl4 : e4.length = env.length
            · rw [if_pos hl4] at pr
              exact fun σ5 H5 F5 ad5 le5 sr5 => nexts σ5 H5 F5 e4 ad5 hl4 le5 sr5 pr
            · rw [if_neg hl4] at pr
              exact pr.elim
          | ct e4 =>
            rw [q4] at pr
            simp only at pr
            by_cases hl4 : e4.length = env.length
            · rw [if_pos hl4] at pr
              exact fun σ5 H5 F5 ad5 le5 sr5 => nexts σ5 H5 F5 e4 ad5 hl4 le5 sr5 pr
            · rw [if_neg hl4] at pr
              exact pr.elim
          | rt d4 e4 =>
            rw [q4] at pr
            exact fun σ5 H5 F5 ad5 v le5 sr5 => pr σ5 H5 F5 ad5 v (leFr.trans le5) sr5
          | exc c4 e4 =>
            rw [q4] at pr
            exact fun C σ5 H5 F5 ad5 hC le5 sr5 => pr C σ5 H5 F5 ad5 hC (leFr.trans le5) sr5
          | bk e4 => rw [q4] at pr; exact pr.elim
          | bad => rw [q4] at pr; exact pr.elim
        · have e0 : i = as.length := by omega
          subst e0
          rw [Nat.sub_self] at pr
          refine .inl ⟨⟨_, by rw [hK]; exact SqL.of hob, by rw [List.length_map]; exact Nat.le_refl _⟩, pr σ' Hc _ _ leFr srr⟩
      | _ => exact p.elim
end
end DL
set_option Elab.async false
set_option linter.all false
set_option maxRecDepth 100000
set_option maxHeartbeats 2000000
namespace DL
open PySem PySem.Spec PyProof.Rows L2 L2H HotX LamX
theorem walks_hot {prog : Program} {w : World} {A : Around} {x1 : Addr} {o1 : Obj} {vs1 : Array Value} (hh : A.handled = some (.ref x1)) (d1 : o1.data = .fields vs1) (c1 : vs1[2]? = some .none) (I ax : Addr) (hne : ax ≠ I) (h1 : x1 ≠ I) (items : Array Value) :
    Walks prog w A I [I, ax, x1] [I] items.size (fun i v => items[i]? = some v) (fun i h => (h.IsListIter I ax i ∧ h.IsList ax items) ∧ h.get? x1 = some o1) where
  sub := fun b hb => by simp at hb; simp [hb]
  frame := fun _ _ _ st hk => ⟨⟨st.1.1.at fun o e => hk I (by simp) o e, st.1.2.at fun o e => hk ax (by simp) o e⟩, hk x1 (by simp) _ st.2⟩
  item := fun i s Q E hi st hQ => by
    refine wpAny_pyNext_list_item st.1.1 st.1.2 (x := items[i]) (by simp [hi]) fun h' hit' hs' => ?_
    exact hQ _ h' s.toks (by simp [hi]) ⟨⟨hit', st.1.2.extBut hs'.extBut hne⟩, hs'.extBut _ _ h1 st.2⟩ fun b o hb e => hs'.extBut b o (fun h => hb (by simp [h])) e
  done := fun s Q E st hQ => list_end_hot ⟨hh, o1, vs1, st.2, d1, c1⟩ st.1.1 st.1.2 (by simp) fun h' he' => hQ h' s.toks fun b o hb e => he' b o (fun h => hb (by simp [h])) e
  self := fun _ _ _ _ st hQ => wpAny_pyIter_listiter st.1.1 hQ
theorem cr_sumH {X : Cx} (hot : HotC X) : CallR X (.builtin "sum") (rSum X.K) := by
  intro pins s σ H vs us Q I r h
  obtain ⟨a, ns, rfl, hs, q⟩ := h
  obtain ⟨its, rv, hl, _⟩ := I.list hs
  rw [Vals.ref1 r]
  obtain ⟨p, ⟨hh, v1, d1, c1⟩, hp⟩ := hot
  have P1 := (I.pin p (List.mem_append_left _ hp)).1
  obtain ⟨xs, e⟩ := rv.ints.allInts.items
  have hn : numsOf (intItems xs).toList = ns := by rw [← e]; exact rv.ints.numsOf
  rw [nums_intItems] at hn
  have hl2 := hl.isList
  rw [e] at hl2
  refine PySem.call_sum_walkG (PySem.iter_intList hl2 fun s₂ e2 st hfp hlI => ?_)
  subst e2
  have px : p.1 ≠ s.heap.objs.size := Nat.ne_of_lt (Heap.lt_size P1)
  refine ⟨_, _, _, _, _, _, numAt xs, rfl, walks_hot (A := X.A.in1) hh d1 c1 _ a hlI px (intItems xs), ⟨st, Heap.get?_push_of_some _ P1⟩, fun b hb => ?_, (fun _ _ => intItems_at), fun h' tk t' hk => ?_⟩
  · have hb2 : b ∈ [s.heap.objs.size, a] ∨ b = p.1 := by
      have : b = s.heap.objs.size ∨ b = a ∨ b = p.1 := by simpa using hb
      rcases this with z | z | z
      · exact .inl (by simp [z])
      · exact .inl (by simp [z])
      · exact .inr z
    rcases hb2 with z | z
    · exact hfp b z
    · rw [z]
      exact Heap.lt_size (Heap.get?_push_of_some _ P1)
  · have e3 : preSum (numAt xs) (intItems xs).size = ns.sum := by
      rw [preSum_eq, List.take_of_length_le (by simp [intItems]), hn]
    rw [e3]
    exact ⟨.int _, H, I.kept (fun b o eb => hk b o (fun z => by
      have : b = s.heap.objs.size := by simpa using z
      exact Nat.lt_irrefl _ (this ▸ Heap.lt_size eb)) (Heap.get?_push_of_some _ eb)), ⟨_, rfl⟩, q⟩
def idxB (b : Bool) : List Bool → Option Nat
  | [] => none
  | c :: r => if c = b then some 0 else (idxB b r).map (· + 1)
theorem idxB_get {b : Bool} : ∀ {bs : List Bool} {j : Nat}, idxB b bs = some j → bs[j]? = some b ∧ ∀ m c, m < j → bs[m]? = some c → c ≠ b
  | [], _, h => by cases h
  | c :: r, j, h => by
    unfold idxB at h
    by_cases e : c = b
    · rw [if_pos e] at h
      cases h
      exact ⟨by rw [e]; rfl, fun m _ hm => absurd hm (Nat.not_lt_zero _)⟩
    · rw [if_neg e] at h
      obtain ⟨k, h1, h2⟩ := Option.map_eq_some_iff.mp h
      subst h2
      obtain ⟨g1, g2⟩ := idxB_get h1
      refine ⟨by simpa using g1, fun m c' hm hc => ?_⟩
      cases m with
      | zero =>
        have : c = c' := by simpa using hc
        rw [← this]; exact e
      | succ m => exact g2 m c' (by omega) (by simpa using hc)
def eIdx (b : Bool) (m : M D) : M D := fun env => (m env).bind fun d e => match d with
  | .lst ds => lift (((blsD ds).bind (idxB b)).map fun j => .int (j : Nat)) e
  | _ => .bad
section
variable {X : Cx} {S : Gd} {W : WX} {o e a b : Expr} {m : M D} {l : M (List D)} {apos cpos pos p2 pt px py : Pos} {j : Nat}
theorem de_idx {bb : Bool} (ho : PE X o (tD S W m)) (hK : X.K = S.T.K := by rfl) (hbase : attributeBase o "index" X.env (eval o X.env) = eval o X.env := by rfl)
    (hs : starEach [.Constant (.bool bb) j p2] X.env = (false, eval (.Constant (.bool bb) j p2) X.env) :: starEach [] X.env := by rfl)
    (hfew : ((backTo cpos (starEach [.Constant (.bool bb) j p2] X.env)).all (fun x => !x.1) && (backToKw cpos (keywordEach [] X.env)).all (fun x => x.1.isSome)
      && decide ([Expr.Constant (.bool bb) j p2].length + ([] : List Keyword).length + (if ([] : List Keyword).isEmpty then 0 else 1) < 30)) = true := by rfl)
    (hline : (apos.endLine == cpos.line) = true := by rfl) (hplain : (backTo cpos (starEach [] X.env)).any (·.1) = false := by rfl) :
    PE X (.Call (.Attribute o "index" apos) [.Constant (.bool bb) j p2] [] cpos) (tD S W (eIdx bb m)) :=
  PE.imp (pe_bm PySem.F.plainAttrs_list PySem.F.slot_list_index PySem.F.type_list_index mt_index ho (pa_cons pe_bl pa_nil hs) hbase hfew hline hs hplain) fun σ H Q ⟨F, env, ad, sr, p⟩ => ⟨F, env, ad, sr, p.bind.imp fun d e1 H1 F1 ad1 le1 sr1 q v r => by
    have q2 := q.2
    split at q2
    · cases r with
      | lst h1 r1 =>
        obtain ⟨d2, e4, q4⟩ := Post.lift q2
        obtain ⟨jj, e5, e6⟩ := Option.map_eq_some_iff.mp e4
        obtain ⟨bs, e7, e8⟩ := Option.bind_eq_some_iff.mp e5
        subst e6
        have ev := bls_rp r1 e7
        rename_i ad0 us0
        have hq : SqL X.K H1 ad0 (bs.map V.bl) := by rw [hK, ← ev]; exact .of (sr1.sub _ _ h1)
        obtain ⟨g1, g2⟩ := idxB_get e8
        refine ⟨.inl ⟨rfl, _, hq⟩, _, _, _, jj, .bl bb, rfl, rfl, hq, rfl, ?_, ?_, ?_, fun m' z' hm hz => ?_, q4 H1 F1 ad1 (Le.refl F1) sr1 _ (.int _)⟩
        · rw [List.all_eq_true]
          intro z hz
          obtain ⟨c, _, rfl⟩ := List.mem_map.mp hz
          rfl
        · rw [List.getElem?_map, g1]; rfl
        · show (bb == bb) = true
          exact beq_self_eq_true bb
        · rw [List.getElem?_map] at hz
          obtain ⟨c, hc1, hc2⟩ := Option.map_eq_some_iff.mp hz
          subst hc2
          show (c == bb) = false
          exact beq_eq_false_iff_ne.mpr (g2 m' c hm hc1)
    · exact q2.elim⟩
end
end DL
set_option Elab.async false
set_option linter.all false
set_option maxRecDepth 100000
set_option maxHeartbeats 2000000
namespace DL
open PySem PySem.Spec PyProof.Rows L2 L2H HotX LamX
theorem _root_.L2H.RoomH.units {k : Nat} {A : Around} (r : RoomH k A) : A.units + 64 < cLine := by have := r.un; omega
theorem _root_.L2H.RoomH.u65 {k : Nat} {A : Around} (r : RoomH k A) : A.units + 65 < cLine := by have := r.un; omega
def exNames : List Str := ["BadPattern", "BadText", "BadWord", "BadPosition", "BadLength", "BadDegree", "BadBudget", "BadSyntax", "TooMany", "NothingToUndo"]
def excB (K : PySem.W.Frag) (D : Addr) : Bool :=
  decide (PySem.W.findIn K (.ref D) "__getattribute__" = some (some (.builtin "BaseException.__getattribute__"))) && decide (PySem.W.findIn K (.ref D) "__getattr__" = some none) && decide (PySem.W.subIn K (.ref D) (.type "BaseException") = some true) && PySem.W.hasDictIn K D &&
  decide (PySem.W.findIn K (.ref D) "__class__" = some (some (.builtin "object.__class__"))) && decide (PySem.W.specialIn K (.builtin "object.__class__") "__get__" = some (some (.builtin "getset_descriptor.__get__"))) && decide (PySem.W.takesIn K (.builtin "object.__class__") = some true) && decide (PySem.W.mroIn K D (.type "object") = some true)
theorem excB_ok {K : PySem.W.Frag} {D : Addr} (h : excB K D = true) : ExcC K D := by
  unfold excB at h
  simp only [Bool.and_eq_true, decide_eq_true_eq] at h
  obtain ⟨⟨⟨⟨⟨⟨⟨h1, h2⟩, h3⟩, h4⟩, h5⟩, h6⟩, h7⟩, h8⟩ := h
  exact ⟨h1, h2, h3, h4, h5, h6, h7, h8⟩
def exB (K : PySem.W.Frag) : Bool := exNames.all fun c => excB K (He.ga K c) && (exNames.all fun c' => decide (PySem.W.kitOne K (.ref (He.ga K c)) (.ref (He.ga K c')) = some (decide (c = c')))) && (decide (PySem.W.kitOne K (.ref (He.ga K c)) (.type "ValueError") = some true) && decide (PySem.W.exmOne K (.ref (He.ga K c)) (.ref (He.ga K "StepError")) = some true))
section
variable {K : PySem.W.Frag} {c c' : Str}
theorem exB_at (h : exB K = true) (hc : c ∈ exNames) : ExcC K (He.ga K c) ∧ (∀ c' ∈ exNames, PySem.W.kitOne K (.ref (He.ga K c)) (.ref (He.ga K c')) = some (decide (c = c'))) ∧ PySem.W.kitOne K (.ref (He.ga K c)) (.type "ValueError") = some true ∧ PySem.W.exmOne K (.ref (He.ga K c)) (.ref (He.ga K "StepError")) = some true := by
  have h1 := List.all_eq_true.mp h c hc
  simp only [Bool.and_eq_true, decide_eq_true_eq] at h1
  obtain ⟨⟨h2, h3⟩, h4, h5⟩ := h1
  exact ⟨excB_ok h2, fun c' hc' => of_decide_eq_true (List.all_eq_true.mp h3 c' hc'), h4, h5⟩
end
structure ToldOk (P : Program) (w : World) (T : Tb) (mg : Str → Option Value) (base : Heap) (k : Nat) (cs : List Str) : Prop where
  term : TermOk P w T mg base k cs
  ex : ∃ (CS g : Addr) (pg : Arguments) (sg : Scope) (fd : FuncData) (p1 p2 p3 p4 p5 p6 p7 p8 p9 p10 : Pos), (∀ c ∈ cs, ∀ C, T.exc c = some C → PySem.W.exmOne T.K (.ref C) (.ref CS) = some true) ∧ mg "StepError" = some (.ref CS) ∧ FunD T.K "_law_told" "_law_told" pg (toldB p1 p2 p3 p4 p5 p6 p7 p8 p9 p10) sg [] [] g fd ∧
    mg "_law_told" = some (.ref g) ∧ L2.Binds T.K fd ["deed"] [] ∧ FnScope ["deed", "e"] ["deed"] sg ∧ sg.names.lookup (Str.ofString "deed") = some .local ∧ sg.names.lookup (Str.ofString "e") = some .local ∧ sg.names.lookup (Str.ofString "StepError") = some .globalImplicit ∧ sg.names.lookup (Str.ofString "_law_term") = some .globalImplicit
section
variable {X : Cx} {T : Tb} {H0 F0 : Hp} {OA : List Addr} {V0 : L2.St} {W : WX} {c P : Addr} {k : Nat} {params : Arguments} {scope : Scope} {body : Expr} {m : M D} {p lpos pos : Pos} {cs : List Str}
theorem de_toldT (TK : ToldOk X.prog X.w T X.mg X.base k cs) (TB : TabB X.base X.mg c P) (hcode : X.env.code = .ref c) (hmT : (P, X.env.qual ++ "<lambda>") ∈ T.tabs) (hu : ∀ p ∈ T.tabs, p.1 = P → p.2 = X.env.qual ++ "<lambda>") (hr : Room (k + 3) X.A) (L : LamS X.env.scope scope) (hdef : defaultsOf params X.env = ([], []))
    (hbind : ∀ (q : Str) (cl : List (Str × Addr)) (pm cv ctv : Value), bindArgs (PySem.W.kla_fn "<lambda>" q params body scope cl pm cv ctv) ⟨[], []⟩ = pure [])
    (hbody : ∀ (A : Around) (outer : List PySem.Env) (s : Shared) (H : Hp) (E : XK) (f c' : Addr), Room (k + 1) (A.deeper (lamEnv X scope s.heap.objs.size f c')) → PE (lamN X A outer s H E scope f c') body (tD ⟨T, H0, F0, OA, V0⟩ (wOf E) m))
    (hK : X.K = T.K := by rfl) (hg : Gl X "_law_told" := by rfl) : PE X (.Call (.Name "_law_told" p) [.Lambda params body scope lpos] [] pos) (tD ⟨T, H0, F0, OA, V0⟩ W (eTold cs m)) := by
  obtain ⟨CS, g, pg, sg, fd, p1, p2, p3, p4, p5, p6, p7, p8, p9, p10, t1, t2, t3, t4, t5, t6, t7, t8, t9, t10⟩ := TK.ex
  exact de_told TK.term t1 t2 t3 t4 t5 t6 t7 t8 t9 t10 TB hcode hmT hu hr L hdef hbind hbody hK hg
end
end DL
set_option Elab.async false
set_option linter.all false
set_option maxRecDepth 100000
set_option maxHeartbeats 4000000
namespace DLZ
open PySem PySem.Spec PyProof.Rows L2
end DLZ
set_option Elab.async false
set_option linter.all false
set_option maxRecDepth 100000
set_option maxHeartbeats 4000000
namespace DL
open PySem PySem.Spec PyProof.Rows L2 DLZ
namespace Src
variable {X : Cx} {pins : List (Addr × Obj)} {σ : L2.St} {H : Hp} {s : Shared} {xs : List V}
theorem At.le {K : PySem.W.Frag} {H' : Hp} (le : Le H H') : ∀ {S : Src}, S.At K H xs → S.At K H' xs
  | .lst a, q => le.l q
  | .tup a, q => le.t q
  | .txt z, q => q
end Src
inductive LayT (H : Hp) : List (V × V) → List Addr → Hp → Prop
  | nil : LayT H [] [] H
  | snoc {ps : List (V × V)} {Ts : List Addr} {H1 : Hp} {T : Addr} {x y : V} : LayT H ps Ts H1 → H1 T = none → LayT H (ps ++ [(x, y)]) (Ts ++ [T]) (upd H1 T (.tup [x, y]))
theorem LayT.le {H H1 : Hp} {ps : List (V × V)} {Ts : List Addr} (h : LayT H ps Ts H1) : Le H H1 := by
  induction h with
  | nil => exact Le.refl _
  | snoc _ hn ih => exact ih.trans (Le.new hn)
end DL
set_option Elab.async false
set_option linter.all false
set_option maxRecDepth 100000
set_option maxHeartbeats 4000000
namespace DL
open PySem PySem.Spec PyProof.Rows L2 DLZ
end DL
set_option Elab.async false
set_option linter.all false
set_option maxRecDepth 100000
set_option maxHeartbeats 4000000
namespace DL
open PySem PySem.Spec PyProof.Rows L2 DLZ
end DL
set_option Elab.async false
set_option linter.all false
set_option maxRecDepth 100000
set_option maxHeartbeats 4000000
namespace DL
open PySem PySem.Spec PyProof.Rows L2
end DL
set_option Elab.async false
set_option linter.all false
set_option maxRecDepth 100000
set_option maxHeartbeats 4000000
namespace DL
open PySem PySem.Spec PyProof.Rows L2
end DL
set_option Elab.async false
set_option linter.all false
set_option maxRecDepth 100000
set_option maxHeartbeats 4000000
namespace DL
open PySem PySem.Spec PyProof.Rows L2
end DL
set_option Elab.async false
set_option linter.all false
set_option maxRecDepth 100000
set_option maxHeartbeats 4000000
namespace DL
open PySem PySem.Spec PyProof.Rows L2
end DL
set_option Elab.async false
set_option linter.all false
set_option maxRecDepth 100000
set_option maxHeartbeats 4000000
namespace DL
open PySem PySem.Spec PyProof.Rows L2
end DL
set_option Elab.async false
set_option linter.all false
set_option maxRecDepth 100000
set_option maxHeartbeats 4000000
namespace DL
open PySem PySem.Spec PyProof.Rows L2
end DL
set_option Elab.async false
set_option linter.all false
set_option maxRecDepth 100000
set_option maxHeartbeats 4000000
namespace DL
open PySem PySem.Spec PyProof.Rows L2
end DL
namespace DL
open PySem PySem.Spec PyProof.Rows L2
section
variable {X : Cx}
variable {S : Gd}
theorem RpAll.isEmpty {T : Tb} {F : Hp} {vs : List V} {ds : List D} (r : RpAll T F vs ds) : vs.isEmpty = ds.isEmpty := by
  cases r <;> rfl
end
end DL
set_option Elab.async false
set_option linter.all false
set_option maxRecDepth 100000
set_option maxHeartbeats 2000000
namespace DL
open PySem PySem.Spec PyProof.Rows L2 L2H HotX LamX
def czS (ns : List Int) (k : Nat) : Int := if ns = [] then (k : Int) * 7919 else ns.getD (k % ns.length) 0 + ((k / ns.length : Nat) : Int) * 104729
def cntS (ns : List Int) (hi : Int) : Nat := if (if (ns.length : Int) < hi then (ns.length : Int) else hi) > 1 then (if (ns.length : Int) < hi then (ns.length : Int) else hi).toNat else 1
theorem tabs_nil {H : Hp} {T : List (Addr × Str)} (h : ∀ p ∈ T, H p.1 = some (.tbl #[])) : TabsX T H :=
  ⟨fun p hp => ⟨#[], h p hp, trivial, fun pos cv hc => by cases hc⟩, fun _ _ _ => trivial⟩
def noTb (H : Hp) : Hp := fun x => match H x with
  | some (.tbl _) => none
  | o => o
theorem noTb_le (H : Hp) : Le (noTb H) H := fun a o e => by
  unfold noTb at e
  split at e
  · cases e
  · exact e
theorem noTb_nt {H : Hp} {a : Addr} {o : HO} (e : noTb H a = some o) : NoTbl o := fun ps z => by
  unfold noTb at e
  split at e
  · cases e
  · rename_i h
    rw [z] at e
    exact h ps e
theorem law_sp {T : Tb} {φ : Fn} {H : Hp} {a : Addr} {ns : List Int} {as : List Slot} (hT : ∀ p ∈ T.tabs, H p.1 = some (.tbl #[])) (hS : SqL T.K H a (ns.map V.int)) (hφ : φ [.dat (.scr ns)] = .rt (.bl true) as) :
    spF T 1 φ [.ref a] H (fun v _ => v = .bl true) fun _ _ _ => False := by
  refine ⟨noTb H, [.dat (.scr ns)], fun _ => [], [], rfl, ?_, rfl, ?_⟩
  · refine ⟨rfl, noTb_le H, fun i s e => ?_, fun _ _ => rfl, fun i j a z => (by cases z), fun i a z => (by cases z), fun a o _ e _ => e, tabs_nil hT, fun a o e => noTb_nt e, fun a o e => .inl e, Le.refl _, fun a e => e, fun i o e => rfl⟩
    cases i with
    | zero =>
      cases e
      refine ⟨rfl, .ref a, rfl, .scr ?_⟩
      rcases hS with h | h
      · refine .inl ?_
        rcases h with h | ⟨o, h⟩
        · exact .inl (by show noTb H a = _; unfold noTb; rw [h])
        · exact .inr ⟨o, by show noTb H a = _; unfold noTb; rw [h]⟩
      · exact .inr h
    | succ i => cases e
  · rw [hφ]
    intro v H' F' ad' _ _ r
    cases r
    rfl
end DL
set_option Elab.async false
set_option linter.all false
set_option maxRecDepth 100000
set_option maxHeartbeats 2000000
namespace DL
open PySem L2
@[simp] theorem bind_ok {α β : Type} (a : α) (e : DL.Env) (f : α → DL.Env → Res β) : (Res.ok a e).bind f = f a e := rfl
@[simp] theorem bind_exc {α β : Type} (c : Str) (e : DL.Env) (f : α → DL.Env → Res β) : (Res.exc c e : Res α).bind f = .exc c e := rfl
@[simp] theorem bind_bad {α β : Type} (f : α → DL.Env → Res β) : (Res.bad : Res α).bind f = .bad := rfl
@[simp] theorem fl_ok {α : Type} (a : α) (e : DL.Env) (f : α → DL.Env → Fl) : (Res.ok a e).fl f = f a e := rfl
@[simp] theorem fl_exc {α : Type} (c : Str) (e : DL.Env) (f : α → DL.Env → Fl) : (Res.exc c e : Res α).fl f = .exc c e := rfl
@[simp] theorem fl_bad {α : Type} (f : α → DL.Env → Fl) : (Res.bad : Res α).fl f = .bad := rfl
@[simp] theorem lift_some {α : Type} (a : α) (e : DL.Env) : lift (some a) e = .ok a e := rfl
@[simp] theorem lift_none {α : Type} (e : DL.Env) : lift (none : Option α) e = .bad := rfl
def Fl.thn : Fl → (DL.Env → Fl) → Fl
  | .nx e, t => t e
  | r, _ => r
@[simp] theorem thn_nx (e : DL.Env) (t : DL.Env → Fl) : (Fl.nx e).thn t = t e := rfl
@[simp] theorem thn_rt (d : D) (e : DL.Env) (t : DL.Env → Fl) : (Fl.rt d e).thn t = .rt d e := rfl
@[simp] theorem thn_exc (c : Str) (e : DL.Env) (t : DL.Env → Fl) : (Fl.exc c e).thn t = .exc c e := rfl
@[simp] theorem thn_bk (e : DL.Env) (t : DL.Env → Fl) : (Fl.bk e).thn t = .bk e := rfl
@[simp] theorem thn_ct (e : DL.Env) (t : DL.Env → Fl) : (Fl.ct e).thn t = .ct e := rfl
theorem v_sSeq (s t : DL.Env → Fl) (env : DL.Env) : sSeq s t env = (s env).thn t := by
  unfold sSeq
  cases s env <;> rfl
def Fl.turn : Fl → (DL.Env → Fl) → Fl
  | .nx e, k => k e
  | .ct e, k => k e
  | .bk e, _ => .nx e
  | r, _ => r
@[simp] theorem turn_nx (e : DL.Env) (t : DL.Env → Fl) : (Fl.nx e).turn t = t e := rfl
@[simp] theorem turn_ct (e : DL.Env) (t : DL.Env → Fl) : (Fl.ct e).turn t = t e := rfl
@[simp] theorem turn_bk (e : DL.Env) (t : DL.Env → Fl) : (Fl.bk e).turn t = .nx e := rfl
@[simp] theorem turn_rt (d : D) (e : DL.Env) (t : DL.Env → Fl) : (Fl.rt d e).turn t = .rt d e := rfl
@[simp] theorem turn_exc (c : Str) (e : DL.Env) (t : DL.Env → Fl) : (Fl.exc c e).turn t = .exc c e := rfl
def optFl (o : Option DL.Env) (t : DL.Env → Fl) : Fl := match o with
  | some e => t e
  | none => .bad
@[simp] theorem optFl_some (e : DL.Env) (t : DL.Env → Fl) : optFl (some e) t = t e := rfl
@[simp] theorem optFl_none (t : DL.Env → Fl) : optFl none t = .bad := rfl
theorem v_for_nil (f : Tg) (b : DL.Env → Fl) (env : DL.Env) : forD f b [] env = .nx env := rfl
theorem v_for_cons (f : Tg) (b : DL.Env → Fl) (d : D) (r : List D) (env : DL.Env) : forD f b (d :: r) env = (optFl (f d env) b).turn fun e => forD f b r e := by
  rw [forD]
  cases f d env with
  | none => rfl
  | some e1 =>
    show (match b e1 with | .nx e2 => forD f b r e2 | .ct e2 => forD f b r e2 | .bk e2 => .nx e2 | .rt x e2 => .rt x e2 | .exc c e2 => .exc c e2 | .bad => .bad) = (b e1).turn _
    cases b e1 <;> rfl
theorem v_sFor (mi : M (List D)) (f : Tg) (b : DL.Env → Fl) (env : DL.Env) : sFor mi f b env = (mi env).fl fun ds e => forD f b ds e := rfl
theorem v_sAsg (m : M D) (f : Tg) (env : DL.Env) : sAsg m f env = (m env).fl fun d e => optFl (f d e) .nx := by
  show ((m env).fl fun d e => match f d e with | some e' => .nx e' | none => .bad) = _
  congr 1
theorem v_gNm (i : Nat) (d : D) (env : DL.Env) : gNm i d env = some (env.set i (.dat d)) := rfl
theorem v_gTu (n : Nat) (g : Tgs) (ds : List D) (env : DL.Env) : gTu n g (.tup ds) env = if ds.length = n then g ds env else none := rfl
theorem v_gNo (env : DL.Env) : gNo [] env = some env := rfl
theorem v_gCo (f : Tg) (g : Tgs) (d : D) (r : List D) (env : DL.Env) : gCo f g (d :: r) env = (f d env).bind fun e => g r e := rfl
theorem v_sRet (m : M D) (env : DL.Env) : sRet m env = (m env).fl fun d e => .rt d e := rfl
theorem v_sExp (m : M D) (env : DL.Env) : sExp m env = (m env).fl fun _ e => .nx e := rfl
theorem v_sIf (t : M Bool) (a b : DL.Env → Fl) (env : DL.Env) : sIf t a b env = (t env).fl fun k e => if k = true then a e else b e := rfl
theorem v_sNil (env : DL.Env) : sNil env = .nx env := rfl
theorem v_sRaise (c : Str) (env : DL.Env) : sRaise c env = .exc c env := rfl
theorem v_sBrk (env : DL.Env) : sBrk env = .bk env := rfl
def endF (args : List Slot) : Fl → FRes
  | .rt d e => (match backA args e with
    | some as => .rt d as
    | none => .bad)
  | .nx e => (match backA args e with
    | some as => .rt .non as
    | none => .bad)
  | .exc c e => (match backA args e with
    | some as => .exc c as
    | none => .bad)
  | _ => .bad
theorem v_fnD (n : Nat) (body : DL.Env → Fl) (args : List Slot) : fnD n body args = endF args (body (args ++ List.replicate (n - args.length) .emp)) := by
  unfold fnD
  generalize body (args ++ List.replicate (n - args.length) .emp) = r
  cases r <;> rfl
theorem v_eC (d : D) (env : DL.Env) : eC d env = .ok d env := rfl
def readS (i : Nat) (env : DL.Env) : Option Slot → Res D
  | some (.dat d) => .ok d env
  | some (.own o) => (match o.dat? with
    | some d => .ok d (env.set i (.dat d))
    | none => .bad)
  | _ => .bad
theorem v_eVar (i : Nat) (env : DL.Env) : eVar i env = readS i env env[i]? := by
  unfold eVar
  generalize env[i]? = r
  match r with
  | none => rfl
  | some .emp => rfl
  | some (.dat _) => rfl
  | some (.own _) => rfl
  | some (.lent _) => rfl
@[simp] theorem readS_dat (i : Nat) (env : DL.Env) (d : D) : readS i env (some (.dat d)) = .ok d env := rfl
@[simp] theorem readS_ol (i : Nat) (env : DL.Env) (xs : List D) : readS i env (some (.own (.ol xs))) = .ok (.lst xs) (env.set i (.dat (.lst xs))) := rfl
def lookS (env : DL.Env) : Option Slot → Res D
  | some (.dat d) => .ok d env
  | some (.own o) => lift o.dat? env
  | some (.lent o) => lift o.dat? env
  | _ => .bad
theorem v_wVar (i : Nat) (env : DL.Env) : wVar i env = lookS env env[i]? := by
  unfold wVar
  generalize env[i]? = r
  match r with
  | none => rfl
  | some .emp => rfl
  | some (.dat _) => rfl
  | some (.own _) => rfl
  | some (.lent _) => rfl
@[simp] theorem lookS_dat (env : DL.Env) (d : D) : lookS env (some (.dat d)) = .ok d env := rfl
@[simp] theorem lookS_ol (env : DL.Env) (xs : List D) : lookS env (some (.own (.ol xs))) = .ok (.lst xs) env := rfl
@[simp] theorem lookS_ll (env : DL.Env) (xs : List D) : lookS env (some (.lent (.ol xs))) = .ok (.lst xs) env := rfl
theorem v_eOp (f : D → D → Option D) (a b : M D) (env : DL.Env) : eOp f a b env = (a env).bind fun x e1 => (b e1).bind fun y e2 => lift (f x y) e2 := rfl
theorem v_eUn (f : D → Option D) (a : M D) (env : DL.Env) : eUn f a env = (a env).bind fun x e1 => lift (f x) e1 := rfl
def boolD : D → DL.Env → Res Bool
  | .bl b, e => .ok b e
  | _, _ => .bad
@[simp] theorem boolD_bl (b : Bool) (e : DL.Env) : boolD (.bl b) e = .ok b e := rfl
theorem v_asB (m : M D) (env : DL.Env) : asB m env = (m env).bind boolD := by
  unfold asB
  congr 1
  funext d e
  cases d <;> rfl
theorem v_bAnd (t u : M Bool) (env : DL.Env) : bAnd t u env = (t env).bind fun b e => if b = true then u e else .ok false e := rfl
theorem v_bOr (t u : M Bool) (env : DL.Env) : bOr t u env = (t env).bind fun b e => if b = true then .ok true e else u e := rfl
theorem v_bNot (t : M Bool) (env : DL.Env) : bNot t env = (t env).bind fun b e => .ok (!b) e := rfl
theorem v_eIf (t : M Bool) (a b : M D) (env : DL.Env) : eIf t a b env = (t env).bind fun k e => if k = true then a e else b e := rfl
theorem v_eAnd (a b : M D) (env : DL.Env) : eAnd a b env = (asB a env).bind fun k e => if k = true then b e else .ok (.bl false) e := rfl
theorem v_eOr (a b : M D) (env : DL.Env) : eOr a b env = (asB a env).bind fun k e => if k = true then .ok (.bl true) e else b e := rfl
theorem v_eNot (a : M D) (env : DL.Env) : eNot a env = (asB a env).bind fun k e => .ok (.bl (!k)) e := rfl
theorem v_bYes (env : DL.Env) : bYes env = .ok true env := rfl
theorem v_aNil (env : DL.Env) : aNil env = .ok [] env := rfl
theorem v_aCons (m : M D) (l : M (List D)) (env : DL.Env) : aCons m l env = (m env).bind fun d e => (l e).bind fun ds e2 => .ok (d :: ds) e2 := rfl
theorem v_eTup (l : M (List D)) (env : DL.Env) : eTup l env = (l env).bind fun ds e => if ds.length ≤ 1000 then .ok (.tup ds) e else .bad := rfl
theorem v_eLst (l : M (List D)) (env : DL.Env) : eLst l env = (l env).bind fun ds e => if ds.length ≤ 1000 then .ok (.lst ds) e else .bad := rfl
theorem v_oLst (l : M (List D)) (env : DL.Env) : oLst l env = (l env).bind fun ds e => if ds.length ≤ 1000 then .ok (.ol ds) e else .bad := rfl
theorem v_eCall (f : List D → Option D) (l : M (List D)) (env : DL.Env) : eCall f l env = (l env).bind fun ds e => lift (f ds) e := rfl
theorem v_eFrz (m : M Own) (env : DL.Env) : eFrz m env = (m env).bind fun o e => lift o.dat? e := rfl
@[simp] theorem dat_ol (xs : List D) : (Own.ol xs).dat? = some (.lst xs) := rfl
theorem v_sOwn (m : M Own) (i : Nat) (env : DL.Env) : sOwn m i env = (m env).fl fun o e => .nx (e.set i (.own o)) := rfl
theorem v_iLst (m : M D) (env : DL.Env) : iLst m env = (m env).bind fun d e => (match d with | .lst ds => .ok ds e | _ => .bad) := rfl
theorem v_iTpl (m : M D) (env : DL.Env) : iTpl m env = (m env).bind fun d e => (match d with | .tup ds => .ok ds e | _ => .bad) := rfl
theorem v_xNil (env : DL.Env) : xNil env = .ok [] env := rfl
theorem v_xDat (m : M D) (l : M AL) (env : DL.Env) : xDat m l env = (m env).bind fun d e => (l e).bind fun as e2 => .ok (some d :: as) e2 := rfl
def callR (env : DL.Env) (i : Nat) (as : AL) : FRes → Res D
  | .rt d ss => (match backX env i as ss with
    | some e2 => .ok d e2
    | none => .bad)
  | .exc c ss => (match backX env i as ss with
    | some e2 => .exc c e2
    | none => .bad)
  | .bad => .bad
theorem v_runX (i n : Nat) (φ : Fn) (as : AL) (env : DL.Env) : runX i n φ as env = if as.length = n then (match slotsX ((env[i]?).bind Slot.ow) as with | some ss => callR env i as (φ ss) | none => .bad) else .bad := by
  unfold runX
  congr 1
  generalize slotsX ((env[i]?).bind Slot.ow) as = o
  cases o with
  | none => rfl
  | some ss =>
    show (match φ ss with | .rt d ss' => (match backX env i as ss' with | some e2 => Res.ok d e2 | none => .bad) | .exc c ss' => (match backX env i as ss' with | some e2 => Res.exc c e2 | none => .bad) | .bad => .bad) = callR env i as (φ ss)
    cases φ ss <;> rfl
theorem v_eFn (i n : Nat) (φ : Fn) (l : M AL) (env : DL.Env) : eFn i n φ l env = (l env).bind fun as e => runX i n φ as e := rfl
def optRes {α : Type} (o : Option DL.Env) (t : DL.Env → Res α) : Res α := match o with
  | some e => t e
  | none => .bad
@[simp] theorem optRes_some {α : Type} (e : DL.Env) (t : DL.Env → Res α) : optRes (some e) t = t e := rfl
@[simp] theorem noX_ok' {α : Type} (a : α) (e : DL.Env) : noX (Res.ok a e) = .ok a e := rfl
theorem v_comp_nil (vs : List Nat) (f : Tg) (tt : M Bool) (te : M D) (env : DL.Env) : compD vs f tt te [] env = .ok [] env := rfl
theorem v_comp_cons (vs : List Nat) (f : Tg) (tt : M Bool) (te : M D) (d : D) (r : List D) (env : DL.Env) : compD vs f tt te (d :: r) env = optRes (f d env) fun e1 => (noX (tt e1)).bind fun b e2 => if b = true then (noX (te e2)).bind fun y e3 => (compD vs f tt te r (wipeE e3 vs)).bind fun ys e4 => .ok (y :: ys) e4 else compD vs f tt te r (wipeE e2 vs) := by
  rw [compD]
  cases f d env <;> rfl
theorem v_oLc (vs : List Nat) (mi : M (List D)) (f : Tg) (tt : M Bool) (te : M D) (env : DL.Env) : oLc vs mi f tt te env = (mi env).bind fun ds e => if ds.length ≤ 1000000 then (compD vs f tt te ds (wipeE e vs)).bind fun ys e2 => .ok (.ol ys) (back1 e (wipeE e2 vs) vs) else .bad := rfl
@[simp] theorem addD_int (i j : Int) : addD (.int i) (.int j) = some (.int (i + j)) := rfl
@[simp] theorem subD_int (i j : Int) : subD (.int i) (.int j) = some (.int (i - j)) := rfl
@[simp] theorem mulD_int (i j : Int) : mulD (.int i) (.int j) = if mulOk i j = true then some (.int (i * j)) else none := rfl
@[simp] theorem divD_int (i j : Int) : divD (.int i) (.int j) = if 0 < j ∧ j.natAbs.log2 < 9000 then some (.int (i / j)) else none := rfl
@[simp] theorem modD_int (i j : Int) : modD (.int i) (.int j) = if 0 < j then some (.int (i % j)) else none := rfl
@[simp] theorem ltD_int (i j : Int) : ltD (.int i) (.int j) = some (.bl (decide (i < j))) := rfl
@[simp] theorem leD_int (i j : Int) : leD (.int i) (.int j) = some (.bl (decide (i ≤ j))) := rfl
@[simp] theorem gtD_int (i j : Int) : gtD (.int i) (.int j) = some (.bl (decide (j < i))) := rfl
@[simp] theorem geD_int (i j : Int) : geD (.int i) (.int j) = some (.bl (decide (j ≤ i))) := rfl
theorem sh_int (i : Int) : (D.int i).sh = true := by
  unfold D.sh SeqAt.shaped
  rw [D.toP]
  simp [PyData.canLay0, PyData.depth]
theorem sh_bl (i : Bool) : (D.bl i).sh = true := by
  unfold D.sh SeqAt.shaped
  rw [D.toP]
  simp [PyData.canLay0, PyData.depth]
@[simp] theorem eqD_int (i j : Int) : eqD (.int i) (.int j) = some (.bl (decide (i = j))) := by
  unfold eqD
  rw [sh_int, sh_int]
  show some (D.bl (D.eqv _ _)) = _
  unfold D.eqv
  rw [D.toP, D.toP, PyData.eqv]
  rfl
@[simp] theorem neD_int (i j : Int) : neD (.int i) (.int j) = some (.bl (!decide (i = j))) := by
  unfold neD
  rw [sh_int, sh_int]
  show some (D.bl (!D.eqv _ _)) = _
  unfold D.eqv
  rw [D.toP, D.toP, PyData.eqv]
  rfl
@[simp] theorem eqD_bl (i j : Bool) : eqD (.bl i) (.bl j) = some (.bl (i == j)) := by
  unfold eqD
  rw [sh_bl, sh_bl]
  show some (D.bl (D.eqv _ _)) = _
  unfold D.eqv
  rw [D.toP, D.toP, PyData.eqv]
@[simp] theorem neD_bl (i j : Bool) : neD (.bl i) (.bl j) = some (.bl (!(i == j))) := by
  unfold neD
  rw [sh_bl, sh_bl]
  show some (D.bl (!D.eqv _ _)) = _
  unfold D.eqv
  rw [D.toP, D.toP, PyData.eqv]
@[simp] theorem ixD_lst (ds : List D) (i : Int) : ixD (.lst ds) (.int i) = atI ds i := rfl
@[simp] theorem ixD_tup (ds : List D) (i : Int) : ixD (.tup ds) (.int i) = atI ds i := rfl
@[simp] theorem lenD_lst (ds : List D) : lenD (.lst ds) = some (.int ds.length) := rfl
@[simp] theorem lenD_tup (ds : List D) : lenD (.tup ds) = some (.int ds.length) := rfl
@[simp] theorem tupleD_lst (ds : List D) : tupleD [.lst ds] = some (.tup ds) := rfl
@[simp] theorem tupleD_tup (ds : List D) : tupleD [.tup ds] = some (.tup ds) := rfl
theorem bls_map {α : Type} (f : α → Bool) : ∀ xs : List α, blsD (xs.map fun x => .bl (f x)) = some (xs.map f)
  | [] => rfl
  | x :: r => by rw [List.map_cons, List.map_cons, blsD, bls_map f r]; rfl
theorem ints_map {α : Type} (f : α → Int) : ∀ xs : List α, intsD (xs.map fun x => .int (f x)) = some (xs.map f)
  | [] => rfl
  | x :: r => by rw [List.map_cons, List.map_cons, intsD, ints_map f r]; rfl
@[simp] theorem allD_map {α : Type} (f : α → Bool) (xs : List α) : allD [.lst (xs.map fun x => .bl (f x))] = some (.bl (xs.all f)) := by
  show (blsD _).map _ = _
  rw [bls_map]
  simp
@[simp] theorem anyD_map {α : Type} (f : α → Bool) (xs : List α) : anyD [.lst (xs.map fun x => .bl (f x))] = some (.bl (xs.any f)) := by
  show (blsD _).map _ = _
  rw [bls_map]
  simp
@[simp] theorem sumD_map {α : Type} (f : α → Int) (xs : List α) : sumD [.lst (xs.map fun x => .int (f x))] = some (.int (xs.map f).sum) := by
  show (intsD _).map _ = _
  rw [ints_map]
  rfl
end DL
set_option Elab.async false
set_option linter.all false
set_option maxRecDepth 100000
set_option maxHeartbeats 0
namespace LW
open PySem PySem.Spec PyProof.Rows L2 L2H HotX LamX DL
def b_law_cell : DL.Env → Fl := (sSeq (sIf (asB (eOp eqD (eVar 0) (eLst aNil))) (sRet (eOp mulD (eVar 1) (eC (.int 7919)))) sNil) (sRet (eOp addD (eOp ixD (eVar 0) (eOp modD (eVar 1) (eUn lenD (eVar 0)))) (eOp mulD (eOp divD (eVar 1) (eUn lenD (eVar 0))) (eC (.int 104729))))))
def f_law_cell : Fn := fnD 2 b_law_cell
def b_law_drawn : DL.Env → Fl := (sSeq (sAsg (eOp modD (eOp addD (eOp mulD (eVar 0) (eC (.int 6364136223846793005))) (eOp mulD (eOp addD (eVar 1) (eC (.int 1))) (eC (.int 1442695040888963407)))) (eC (.int 340282366920938463463374607431768211507))) (gNm 2)) (sSeq (sAsg (eOp modD (eOp mulD (eVar 2) (eVar 2)) (eC (.int 340282366920938463463374607431768211297))) (gNm 2)) (sSeq (sAsg (eOp mulD (eOp mulD (eOp addD (eOp modD (eVar 2) (eC (.int 18446744073709551557))) (eC (.int 1))) (eOp addD (eOp divD (eVar 2) (eC (.int 18446744073709551557))) (eC (.int 1)))) (eVar 2)) (gNm 2)) (sRet (eOp modD (eVar 2) (eC (.int 340282366920938463463374607431768211507)))))))
def f_law_drawn : Fn := fnD 3 b_law_drawn
def b_law_roll : DL.Env → Fl := (sSeq (sIf (asB (eOp geD (eIxV 0 (eC (.int 0))) (eOp powD (eC (.int 10)) (eC (.int 18))))) (sSeq (sAsg (eOp modD (eIxV 0 (eC (.int 0))) (eVar 1)) (gNm 2)) (sSeq (sSetI 0 (eC (.int 0)) (eOp divD (eIxV 0 (eC (.int 0))) (eVar 1))) (sRet (eVar 2)))) sNil) (sSeq (sSetI 0 (eC (.int 1)) (eOp addD (eIxV 0 (eC (.int 1))) (eC (.int 1)))) (sRet (eOp modD (eOp divD (eFn 0 2 f_law_drawn (xDat (eIxV 0 (eC (.int 0))) (xDat (eIxV 0 (eC (.int 1))) xNil))) (eC (.int 8))) (eVar 1)))))
def f_law_roll : Fn := fnD 3 b_law_roll
def b_law_null (r : Fn) : DL.Env → Fl := (sSeq (sIf (asB (eOp eqD (eOp ixD (eVar 0) (eC (.int 0))) (eC (.str "set")))) (sRet (eC (.bl false))) sNil) (sSeq (sIf (asB (eOp eqD (eOp ixD (eVar 0) (eC (.int 0))) (eC (.str "seq")))) (sRet (eNot (eOp inD (eC (.bl false)) (eFrz (oLc [1] (iTpl (eOp ixD (eVar 0) (eC (.int 1)))) (gNm 1) bYes (eFn 0 1 r (xDat (eVar 1) xNil))))))) sNil) (sRet (eIf (asB (eOp eqD (eOp ixD (eVar 0) (eC (.int 0))) (eC (.str "alt")))) (eOp inD (eC (.bl true)) (eFrz (oLc [1] (iTpl (eOp ixD (eVar 0) (eC (.int 1)))) (gNm 1) bYes (eFn 0 1 r (xDat (eVar 1) xNil))))) (eC (.bl true))))))
def f_law_null : Nat → Fn
  | 0 => noFn
  | k + 1 => fnD 2 (b_law_null (f_law_null k))
def b_law_draw (r : Fn) : DL.Env → Fl := (sSeq (sAsg (eIf (bAnd (asB (eOp gtD (eVar 1) (eC (.int 0)))) (asB (eOp gtD (eVar 2) (eC (.int 1))))) (eFn 0 2 f_law_roll (xOwn 0 (xDat (eC (.int 9)) xNil))) (eFn 0 2 f_law_roll (xOwn 0 (xDat (eC (.int 2)) xNil)))) (gNm 3)) (sSeq (sIf (bOr (asB (eOp ltD (eVar 3) (eC (.int 2)))) (asB (eOp eqD (eVar 1) (eC (.int 0))))) (sRet (eTup (aCons (eC (.str "set")) (aCons (eOp ixD (eLst (aCons (eC (.str "a")) (aCons (eC (.str "b")) (aCons (eC (.str "ab")) (aCons (eC (.str "c")) (aCons (eC (.str "a")) (aCons (eC (.str "bc")) (aCons (eC (.str "abc")) aNil)))))))) (eFn 0 2 f_law_roll (xOwn 0 (xDat (eC (.int 7)) xNil)))) aNil)))) sNil) (sSeq (sIf (bAnd (asB (eOp ltD (eVar 3) (eC (.int 6)))) (asB (eOp gtD (eVar 2) (eC (.int 1))))) (sSeq (sAsg (eOp addD (eC (.int 2)) (eIf (asB (eOp gtD (eVar 2) (eC (.int 3)))) (eFn 0 2 f_law_roll (xOwn 0 (xDat (eC (.int 2)) xNil))) (eC (.int 0)))) (gNm 5)) (sSeq (sAsg (eCall tupleD (aCons (eFrz (oLc [7] (iRg1 (aCons (eVar 5) aNil)) (gNm 7) bYes (eFn 0 3 r (xOwn 0 (xDat (eOp subD (eVar 1) (eC (.int 1))) (xDat (eOp divD (eVar 2) (eVar 5)) xNil)))))) aNil)) (gNm 6)) (sRet (eTup (aCons (eIf (asB (eOp ltD (eVar 3) (eC (.int 4)))) (eC (.str "seq")) (eC (.str "alt"))) (aCons (eVar 6) aNil)))))) sNil) (sSeq (sAsg (eFn 0 3 r (xOwn 0 (xDat (eOp subD (eVar 1) (eC (.int 1))) (xDat (eVar 2) xNil)))) (gNm 4)) (sSeq (sIf (bAnd (asB (eOp ltD (eVar 3) (eC (.int 8)))) (bNot (asB (eFn 0 1 (f_law_null 20) (xDat (eVar 4) xNil))))) (sRet (eTup (aCons (eC (.str "star")) (aCons (eVar 4) aNil)))) sNil) (sRet (eIf (asB (eOp neD (eOp ixD (eVar 4) (eC (.int 0))) (eC (.str "opt")))) (eTup (aCons (eC (.str "opt")) (aCons (eVar 4) aNil))) (eVar 4))))))))
def f_law_draw : Nat → Fn
  | 0 => noFn
  | k + 1 => fnD 8 (b_law_draw (f_law_draw k))
def b_law_pattern : DL.Env → Fl := (sSeq (sAsg (eFn 0 2 f_law_roll (xOwn 0 (xDat (eC (.int 14)) xNil))) (gNm 1)) (sSeq (sAsg (eTup (aCons (eTup (aCons (eC (.str "set")) (aCons (eC (.str "a")) aNil))) (aCons (eTup (aCons (eC (.str "set")) (aCons (eC (.str "ab")) aNil))) aNil))) (gTu 2 (gCo (gNm 2) (gCo (gNm 3) gNo)))) (sSeq (sIf (asB (eOp eqD (eVar 1) (eC (.int 0)))) (sRet (eTup (aCons (eC (.str "star")) (aCons (eTup (aCons (eC (.str "alt")) (aCons (eTup (aCons (eVar 2) (aCons (eVar 3) aNil))) aNil))) aNil)))) sNil) (sSeq (sIf (asB (eOp eqD (eVar 1) (eC (.int 1)))) (sRet (eTup (aCons (eC (.str "seq")) (aCons (eTup (aCons (eTup (aCons (eC (.str "star")) (aCons (eVar 2) aNil))) (aCons (eTup (aCons (eC (.str "star")) (aCons (eVar 3) aNil))) (aCons (eTup (aCons (eC (.str "set")) (aCons (eC (.str "b")) aNil))) aNil)))) aNil)))) sNil) (sSeq (sIf (asB (eOp eqD (eVar 1) (eC (.int 2)))) (sRet (eTup (aCons (eC (.str "seq")) (aCons (eTup (aCons (eTup (aCons (eC (.str "star")) (aCons (eVar 3) aNil))) (aCons (eTup (aCons (eC (.str "star")) (aCons (eVar 2) aNil))) (aCons (eTup (aCons (eC (.str "star")) (aCons (eVar 3) aNil))) aNil)))) aNil)))) sNil) (sSeq (sIf (asB (eOp eqD (eVar 1) (eC (.int 3)))) (sRet (eTup (aCons (eC (.str "star")) (aCons (eTup (aCons (eC (.str "seq")) (aCons (eTup (aCons (eTup (aCons (eC (.str "opt")) (aCons (eVar 2) aNil))) (aCons (eVar 3) aNil))) aNil))) aNil)))) sNil) (sSeq (sIf (asB (eOp eqD (eVar 1) (eC (.int 4)))) (sRet (eTup (aCons (eC (.str "seq")) (aCons (eTup (aCons (eTup (aCons (eC (.str "alt")) (aCons (eTup (aCons (eTup (aCons (eC (.str "opt")) (aCons (eVar 2) aNil))) (aCons (eTup (aCons (eC (.str "opt")) (aCons (eVar 3) aNil))) aNil))) aNil))) (aCons (eTup (aCons (eC (.str "star")) (aCons (eTup (aCons (eC (.str "seq")) (aCons (eTup (aCons (eVar 2) (aCons (eVar 3) aNil))) aNil))) aNil))) aNil))) aNil)))) sNil) (sSeq (sIf (asB (eOp eqD (eVar 1) (eC (.int 5)))) (sRet (eTup (aCons (eC (.str "star")) (aCons (eTup (aCons (eC (.str "seq")) (aCons (eTup (aCons (eTup (aCons (eC (.str "alt")) (aCons (eTup (aCons (eTup (aCons (eC (.str "opt")) (aCons (eTup (aCons (eC (.str "set")) (aCons (eC (.str "b")) aNil))) aNil))) (aCons (eTup (aCons (eC (.str "opt")) (aCons (eTup (aCons (eC (.str "set")) (aCons (eC (.str "c")) aNil))) aNil))) aNil))) aNil))) (aCons (eVar 2) aNil))) aNil))) aNil)))) sNil) (sSeq (sIf (asB (eOp eqD (eVar 1) (eC (.int 6)))) (sSeq (sAsg (eTup (aCons (eC (.str "seq")) (aCons (eTup (aCons (eTup (aCons (eC (.str "star")) (aCons (eVar 2) aNil))) (aCons (eTup (aCons (eC (.str "star")) (aCons (eVar 3) aNil))) aNil))) aNil))) (gNm 4)) (sRet (eTup (aCons (eC (.str "seq")) (aCons (eTup (aCons (eTup (aCons (eC (.str "star")) (aCons (eVar 2) aNil))) (aCons (eTup (aCons (eC (.str "star")) (aCons (eVar 2) aNil))) (aCons (eTup (aCons (eC (.str "set")) (aCons (eC (.str "b")) aNil))) (aCons (eVar 4) aNil))))) aNil))))) sNil) (sRet (eFn 0 3 (f_law_draw 20) (xOwn 0 (xDat (eC (.int 3)) (xDat (eC (.int 6)) xNil))))))))))))))
def f_law_pattern : Fn := fnD 5 b_law_pattern
def b_is_letters : DL.Env → Fl := (sSeq (sIf (bOr (bNot (asB (eUn (isiD "str") (eVar 0)))) (bOr (bNot (asB (eChain leD leD (eC (.int 1)) (eUn lenD (eVar 0)) (eC (.int 3))))) (bNot (asB (eCall allD (aCons (eFrz (oLc [3] (iStr (eVar 0)) (gNm 3) bYes (eOp inD (eVar 3) (eC (.str "abc"))))) aNil)))))) (sRet (eC (.bl false))) sNil) (sRet (eCall allD (aCons (eFrz (oLc [1, 2] (iZp (aCons (eVar 0) (aCons (eSl (eVar 0) (pSo (eC (.int 1))) pNo) aNil))) (gTu 2 (gCo (gNm 1) (gCo (gNm 2) gNo))) bYes (eOp ltD (eVar 1) (eVar 2)))) aNil))))
def f_is_letters : Fn := fnD 4 b_is_letters
def b_has_shape (r : Fn) : DL.Env → Fl := (sSeq (sIf (bOr (asB (eOp eqD (eVar 1) (eC (.int 0)))) (bOr (bNot (asB (eUn (isiD "tuple") (eVar 0)))) (bOr (asB (eOp neD (eUn lenD (eVar 0)) (eC (.int 2)))) (bNot (asB (eUn (isiD "str") (eOp ixD (eVar 0) (eC (.int 0))))))))) (sRet (eC (.bl false))) sNil) (sSeq (sIf (asB (eOp eqD (eOp ixD (eVar 0) (eC (.int 0))) (eC (.str "set")))) (sRet (eFn 0 1 f_is_letters (xDat (eOp ixD (eVar 0) (eC (.int 1))) xNil))) sNil) (sSeq (sIf (asB (eOp inD (eOp ixD (eVar 0) (eC (.int 0))) (eTup (aCons (eC (.str "seq")) (aCons (eC (.str "alt")) aNil))))) (sSeq (sIf (bOr (bNot (asB (eUn (isiD "tuple") (eOp ixD (eVar 0) (eC (.int 1)))))) (bNot (asB (eChain leD leD (eC (.int 2)) (eUn lenD (eOp ixD (eVar 0) (eC (.int 1)))) (eC (.int 4)))))) (sRet (eC (.bl false))) sNil) (sRet (eCall allD (aCons (eFrz (oLc [2] (iTpl (eOp ixD (eVar 0) (eC (.int 1)))) (gNm 2) bYes (eFn 0 2 r (xDat (eVar 2) (xDat (eOp subD (eVar 1) (eC (.int 1))) xNil))))) aNil)))) sNil) (sRet (eAnd (eOp inD (eOp ixD (eVar 0) (eC (.int 0))) (eTup (aCons (eC (.str "opt")) (aCons (eC (.str "star")) aNil)))) (eFn 0 2 r (xDat (eOp ixD (eVar 0) (eC (.int 1))) (xDat (eOp subD (eVar 1) (eC (.int 1))) xNil))))))))
def f_has_shape : Nat → Fn
  | 0 => noFn
  | k + 1 => fnD 3 (b_has_shape (f_has_shape k))
def b_items_of : DL.Env → Fl := (sSeq (sIf (asB (eOp eqD (eOp ixD (eVar 0) (eC (.int 0))) (eC (.str "set")))) (sRet (eTup aNil)) sNil) (sRet (eIf (asB (eOp inD (eOp ixD (eVar 0) (eC (.int 0))) (eTup (aCons (eC (.str "seq")) (aCons (eC (.str "alt")) aNil))))) (eOp ixD (eVar 0) (eC (.int 1))) (eTup (aCons (eOp ixD (eVar 0) (eC (.int 1))) aNil)))))
def f_items_of : Fn := fnD 1 b_items_of
def b_nullable (r : Fn) : DL.Env → Fl := (sSeq (sOwn (oLc [2] (iTpl (eFn 0 1 f_items_of (xDat (eVar 0) xNil))) (gNm 2) bYes (eFn 0 1 r (xDat (eVar 2) xNil))) 1) (sSeq (sIf (asB (eOp eqD (eOp ixD (eVar 0) (eC (.int 0))) (eC (.str "seq")))) (sRet (eCall allD (aCons (eVar 1) aNil))) sNil) (sRet (eIf (asB (eOp eqD (eOp ixD (eVar 0) (eC (.int 0))) (eC (.str "alt")))) (eCall anyD (aCons (eVar 1) aNil)) (eOp inD (eOp ixD (eVar 0) (eC (.int 0))) (eTup (aCons (eC (.str "opt")) (aCons (eC (.str "star")) aNil))))))))
def f_nullable : Nat → Fn
  | 0 => noFn
  | k + 1 => fnD 3 (b_nullable (f_nullable k))
def b_stars_are_good (r : Fn) : DL.Env → Fl := (sSeq (sIf (bAnd (asB (eOp eqD (eOp ixD (eVar 0) (eC (.int 0))) (eC (.str "star")))) (asB (eFn 0 1 (f_nullable 20) (xDat (eOp ixD (eVar 0) (eC (.int 1))) xNil)))) (sRet (eC (.bl false))) sNil) (sRet (eCall allD (aCons (eFrz (oLc [1] (iTpl (eFn 0 1 f_items_of (xDat (eVar 0) xNil))) (gNm 1) bYes (eFn 0 1 r (xDat (eVar 1) xNil)))) aNil))))
def f_stars_are_good : Nat → Fn
  | 0 => noFn
  | k + 1 => fnD 2 (b_stars_are_good (f_stars_are_good k))
def b_node_count (r : Fn) : DL.Env → Fl := (sRet (eOp addD (eC (.int 1)) (eCall sumD (aCons (eFrz (oLc [1] (iTpl (eFn 0 1 f_items_of (xDat (eVar 0) xNil))) (gNm 1) bYes (eFn 0 1 r (xDat (eVar 1) xNil)))) aNil))))
def f_node_count : Nat → Fn
  | 0 => noFn
  | k + 1 => fnD 2 (b_node_count (f_node_count k))
def b_all_sets (r : Fn) : DL.Env → Fl := (sSeq (sIf (asB (eOp eqD (eOp ixD (eVar 0) (eC (.int 0))) (eC (.str "set")))) (sRet (eTup (aCons (eOp ixD (eVar 0) (eC (.int 1))) aNil))) sNil) (sSeq (sAsg (eTup aNil) (gNm 1)) (sSeq (sFor (iTpl (eFn 0 1 f_items_of (xDat (eVar 0) xNil))) (gNm 2) (sAsg (eOp addD (eVar 1) (eFn 0 1 r (xDat (eVar 2) xNil))) (gNm 1))) (sRet (eVar 1)))))
def f_all_sets : Nat → Fn
  | 0 => noFn
  | k + 1 => fnD 3 (b_all_sets (f_all_sets k))
def b_is_pattern : DL.Env → Fl := (sSeq (sIf (bNot (asB (eFn 0 2 (f_has_shape 20) (xDat (eVar 0) (xDat (eOp addD (eC (.int 16)) (eC (.int 1))) xNil))))) (sRet (eC (.bl false))) sNil) (sRet (eAnd (eOp leD (eFn 0 1 (f_node_count 20) (xDat (eVar 0) xNil)) (eC (.int 16))) (eAnd (eOp leD (eUn lenD (eFn 0 1 (f_all_sets 20) (xDat (eVar 0) xNil))) (eC (.int 8))) (eFn 0 1 (f_stars_are_good 20) (xDat (eVar 0) xNil))))))
def f_is_pattern : Fn := fnD 1 b_is_pattern
def b_check_pattern : DL.Env → Fl := (sIf (bNot (asB (eFn 0 1 f_is_pattern (xDat (eVar 0) xNil)))) (sRaise "BadPattern") sNil)
def f_check_pattern : Fn := fnD 1 b_check_pattern
def b_is_nullable : DL.Env → Fl := (sSeq (sExp (eFn 0 1 f_check_pattern (xDat (eVar 0) xNil))) (sRet (eFn 0 1 (f_nullable 20) (xDat (eVar 0) xNil))))
def f_is_nullable : Fn := fnD 1 b_is_nullable
def b_law_term (a : Addr) (c : Str) : DL.Env → Fl := (sSeq (sAsg (eLst (aCons (eIsE a (decide (c = "BadPattern")) (eVar 0)) (aCons (eIsE a (decide (c = "BadText")) (eVar 0)) (aCons (eIsE a (decide (c = "BadWord")) (eVar 0)) (aCons (eIsE a (decide (c = "BadPosition")) (eVar 0)) aNil))))) (gNm 1)) (sSeq (sAsg (eOp addD (eVar 1) (eLst (aCons (eIsE a (decide (c = "BadLength")) (eVar 0)) (aCons (eIsE a (decide (c = "BadDegree")) (eVar 0)) (aCons (eIsE a (decide (c = "BadBudget")) (eVar 0)) aNil))))) (gNm 1)) (sSeq (sAsg (eOp addD (eVar 1) (eLst (aCons (eIsE a (decide (c = "BadSyntax")) (eVar 0)) (aCons (eIsE a (decide (c = "TooMany")) (eVar 0)) (aCons (eIsE a (decide (c = "NothingToUndo")) (eVar 0)) aNil))))) (gNm 1)) (sSeq (sAsg (eLst (aCons (eC (.str "BadPattern")) (aCons (eC (.str "BadText")) (aCons (eC (.str "BadWord")) (aCons (eC (.str "BadPosition")) (aCons (eC (.str "BadLength")) (aCons (eC (.str "BadDegree")) (aCons (eC (.str "BadBudget")) aNil)))))))) (gNm 2)) (sSeq (sAsg (eOp addD (eVar 2) (eLst (aCons (eC (.str "BadSyntax")) (aCons (eC (.str "TooMany")) (aCons (eC (.str "NothingToUndo")) aNil))))) (gNm 2)) (sSeq (sIf (bOr (asB (eOp neD (eCall sumD (aCons (eFrz (oLc [3] (iLst (eVar 1)) (gNm 3) bYes (eCall intD (aCons (eVar 3) aNil)))) aNil)) (eC (.int 1)))) (bNot (asB (eIsE a true (eVar 0))))) (sRet (eTup (aCons (eC (.str "error")) (aCons (eC (.str "other")) aNil)))) sNil) (sRet (eTup (aCons (eC (.str "error")) (aCons (eOp ixD (eVar 2) (eIdx true (eVar 1))) aNil))))))))))
def b_sets : DL.Env → Fl := (sSeq (sExp (eFn 0 1 f_check_pattern (xDat (eVar 0) xNil))) (sRet (eFn 0 1 (f_all_sets 20) (xDat (eVar 0) xNil))))
def f_sets : Fn := fnD 1 b_sets
def b_start_list_x : DL.Env → Fl := (sSeq (sExp (eFn 0 1 f_check_pattern (xDat (eVar 0) xNil))) sBad)
def f_start_list_x : Fn := fnD 1 b_start_list_x
def b_matches_x : DL.Env → Fl := (sSeq (sExp (eFn 0 1 f_check_pattern (xDat (eVar 0) xNil))) sBad)
def f_matches_x : Fn := fnD 2 b_matches_x
def b_growth_x : DL.Env → Fl := (sSeq (sExp (eFn 0 1 f_check_pattern (xDat (eVar 0) xNil))) sBad)
def f_growth_x : Fn := fnD 3 b_growth_x
def b_is_pump_x : DL.Env → Fl := (sSeq (sExp (eFn 0 1 f_check_pattern (xDat (eVar 0) xNil))) sBad)
def f_is_pump_x : Fn := fnD 5 b_is_pump_x
def b_check_both : DL.Env → Fl := (sSeq (sExp (eFn 0 1 f_check_pattern (xDat (eVar 0) xNil))) (sExp (eFn 0 1 f_check_pattern (xDat (eVar 1) xNil))))
def f_check_both : Fn := fnD 2 b_check_both
def b_same_language_x : DL.Env → Fl := (sSeq (sExp (eFn 0 2 f_check_both (xDat (eVar 0) (xDat (eVar 1) xNil)))) sBad)
def f_same_language_x : Fn := fnD 2 b_same_language_x
def b_simplify_x : DL.Env → Fl := (sSeq (sExp (eFn 0 1 f_check_pattern (xDat (eVar 0) xNil))) sBad)
def f_simplify_x : Fn := fnD 1 b_simplify_x
def b_to_text_x : DL.Env → Fl := (sSeq (sExp (eFn 0 1 f_check_pattern (xDat (eVar 0) xNil))) sBad)
def f_to_text_x : Fn := fnD 1 b_to_text_x
def b_Suite_init_x : DL.Env → Fl := (sSeq (sExp (eFn 0 1 f_check_pattern (xDat (eVar 1) xNil))) sBad)
def f_Suite_init_x : Fn := fnD 3 b_Suite_init_x
def b_law_patterns_rejected : DL.Env → Fl := (sSeq (sAsg (eTup (aCons (eC (.str "set")) (aCons (eC (.str "a")) aNil))) (gNm 0)) (sSeq (sAsg (eTup (aCons (eC (.str "seq")) (aCons (eTup (aCons (eVar 0) (aCons (eVar 0) (aCons (eVar 0) (aCons (eVar 0) aNil))))) aNil))) (gNm 1)) (sSeq (sAsg (eLst (aCons (eC .non) (aCons (eC (.int 5)) (aCons (eC (.str "a")) (aCons (eTup aNil) (aCons (eTup (aCons (eC (.str "set")) aNil)) (aCons (eTup (aCons (eC (.str "set")) (aCons (eC (.str "")) aNil))) (aCons (eTup (aCons (eC (.str "set")) (aCons (eC (.str "ba")) aNil))) (aCons (eTup (aCons (eC (.str "set")) (aCons (eC (.str "aa")) aNil))) (aCons (eTup (aCons (eC (.str "set")) (aCons (eC (.str "x")) aNil))) aNil)))))))))) (gNm 2)) (sSeq (sAsg (eOp addD (eVar 2) (eLst (aCons (eTup (aCons (eC (.str "set")) (aCons (eC (.str "abcx")) aNil))) (aCons (eTup (aCons (eC (.str "set")) (aCons (eC (.int 5)) aNil))) (aCons (eLst (aCons (eC (.str "set")) (aCons (eC (.str "a")) aNil))) aNil))))) (gNm 2)) (sSeq (sAsg (eOp addD (eVar 2) (eLst (aCons (eTup (aCons (eC (.str "seq")) (aCons (eTup (aCons (eVar 0) aNil)) aNil))) (aCons (eTup (aCons (eC (.str "seq")) (aCons (eLst (aCons (eVar 0) (aCons (eVar 0) aNil))) aNil))) (aCons (eTup (aCons (eC (.str "seq")) (aCons (eOp mulD (eTup (aCons (eVar 0) aNil)) (eC (.int 5))) aNil))) (aCons (eTup (aCons (eC (.str "alt")) (aCons (eTup aNil) aNil))) aNil)))))) (gNm 2)) (sSeq (sAsg (eOp addD (eVar 2) (eLst (aCons (eTup (aCons (eC (.str "alt")) (aCons (eTup (aCons (eVar 0) (aCons (eC .non) aNil))) aNil))) (aCons (eTup (aCons (eC (.str "opt")) (aCons (eC .non) aNil))) (aCons (eTup (aCons (eC (.str "opt")) (aCons (eTup (aCons (eVar 0) aNil)) aNil))) aNil))))) (gNm 2)) (sSeq (sAsg (eOp addD (eVar 2) (eLst (aCons (eTup (aCons (eC (.str "star")) (aCons (eTup (aCons (eC (.str "opt")) (aCons (eVar 0) aNil))) aNil))) (aCons (eTup (aCons (eC (.str "star")) (aCons (eTup (aCons (eC (.str "star")) (aCons (eVar 0) aNil))) aNil))) aNil)))) (gNm 2)) (sSeq (sAsg (eOp addD (eVar 2) (eLst (aCons (eTup (aCons (eC (.str "star")) (aCons (eTup (aCons (eC (.str "alt")) (aCons (eTup (aCons (eVar 0) (aCons (eTup (aCons (eC (.str "opt")) (aCons (eVar 0) aNil))) aNil))) aNil))) aNil))) (aCons (eTup (aCons (eC (.str "plus")) (aCons (eVar 0) aNil))) (aCons (eTup (aCons (eC (.bl true)) (aCons (eVar 0) aNil))) aNil))))) (gNm 2)) (sSeq (sAsg (eOp addD (eVar 2) (eLst (aCons (eTup (aCons (eC (.str "seq")) (aCons (eTup (aCons (eVar 1) (aCons (eVar 1) (aCons (eVar 0) aNil)))) aNil))) (aCons (eTup (aCons (eC (.str "star")) (aCons (eTup (aCons (eC (.str "seq")) (aCons (eTup (aCons (eTup (aCons (eC (.str "opt")) (aCons (eVar 0) aNil))) (aCons (eTup (aCons (eC (.str "star")) (aCons (eVar 0) aNil))) aNil))) aNil))) aNil))) aNil)))) (gNm 2)) (sSeq (sFor (iLst (eVar 2)) (gNm 3) (sSeq (sOwn (oLst (aCons (eTold exNames (eFn 0 1 f_is_nullable (xDat (eVar 3) xNil))) aNil)) 4) (sSeq (sExp (eApp 4 (eTold exNames (eFn 0 1 f_sets (xDat (eVar 3) xNil))))) (sSeq (sExp (eApp 4 (eTold exNames (eFn 0 1 f_start_list_x (xDat (eVar 3) xNil))))) (sSeq (sExp (eApp 4 (eTold exNames (eFn 0 2 f_matches_x (xDat (eVar 3) (xDat (eC (.str "")) xNil)))))) (sSeq (sExp (eApp 4 (eTold exNames (eFn 0 1 f_growth_x (xDat (eVar 3) xNil))))) (sSeq (sExp (eApp 4 (eTold exNames (eFn 0 2 f_is_pump_x (xDat (eVar 3) (xDat (eC .non) xNil)))))) (sSeq (sExp (eApp 4 (eTold exNames (eFn 0 2 f_same_language_x (xDat (eVar 0) (xDat (eVar 3) xNil)))))) (sSeq (sExp (eApp 4 (eTold exNames (eFn 0 1 f_simplify_x (xDat (eVar 3) xNil))))) (sSeq (sExp (eApp 4 (eTold exNames (eFn 0 1 f_to_text_x (xDat (eVar 3) xNil))))) (sSeq (sExp (eApp 4 (eTold exNames (eFrz (oMake "Suite" 3 f_Suite_init_x (xDat (eVar 3) (xDat (eC (.int 1)) xNil))))))) (sIf (bOr (asB (eOp isnD (eFn 0 1 f_is_pattern (xDat (eVar 3) xNil)) (eC (.bl false)))) (asB (eOpV neD 4 (eOp mulD (eLst (aCons (eTup (aCons (eC (.str "error")) (aCons (eC (.str "BadPattern")) aNil))) aNil)) (eC (.int 10)))))) (sRet (eC (.bl false))) sNil)))))))))))) (sRet (eOp isD (eFn 0 1 f_is_pattern (xDat (eTup (aCons (eC (.str "seq")) (aCons (eTup (aCons (eVar 1) (aCons (eVar 1) aNil))) aNil))) xNil)) (eC (.bl true))))))))))))))
def f_law_patterns_rejected : Fn := fnD 5 b_law_patterns_rejected
def b_size : DL.Env → Fl := (sSeq (sExp (eFn 0 1 f_check_pattern (xDat (eVar 0) xNil))) (sRet (eFn 0 1 (f_node_count 20) (xDat (eVar 0) xNil))))
def f_size : Fn := fnD 1 b_size
def b_law_size (r : Fn) : DL.Env → Fl := (sSeq (sIf (asB (eOp eqD (eOp ixD (eVar 0) (eC (.int 0))) (eC (.str "set")))) (sRet (eC (.int 1))) sNil) (sRet (eOp addD (eC (.int 1)) (eCall sumD (aCons (eFrz (oLc [1] (iTpl (eIf (asB (eOp inD (eOp ixD (eVar 0) (eC (.int 0))) (eTup (aCons (eC (.str "seq")) (aCons (eC (.str "alt")) aNil))))) (eOp ixD (eVar 0) (eC (.int 1))) (eTup (aCons (eOp ixD (eVar 0) (eC (.int 1))) aNil)))) (gNm 1) bYes (eFn 0 1 r (xDat (eVar 1) xNil)))) aNil)))))
def f_law_size : Nat → Fn
  | 0 => noFn
  | k + 1 => fnD 2 (b_law_size (f_law_size k))
def b_law_letters (r : Fn) : DL.Env → Fl := (sSeq (sIf (asB (eOp eqD (eOp ixD (eVar 0) (eC (.int 0))) (eC (.str "set")))) (sRet (eLst (aCons (eOp ixD (eVar 0) (eC (.int 1))) aNil))) sNil) (sSeq (sAsg (eLst aNil) (gNm 1)) (sSeq (sFor (iTpl (eIf (asB (eOp inD (eOp ixD (eVar 0) (eC (.int 0))) (eTup (aCons (eC (.str "seq")) (aCons (eC (.str "alt")) aNil))))) (eOp ixD (eVar 0) (eC (.int 1))) (eTup (aCons (eOp ixD (eVar 0) (eC (.int 1))) aNil)))) (gNm 2) (sAsg (eOp addD (eVar 1) (eFn 0 1 r (xDat (eVar 2) xNil))) (gNm 1))) (sRet (eVar 1)))))
def f_law_letters : Nat → Fn
  | 0 => noFn
  | k + 1 => fnD 3 (b_law_letters (f_law_letters k))
def mx_rounds : M (List D) := (iRg1 (aCons (eCall maxD (aCons (eC (.int 1)) (aCons (eCall minD (aCons (eVar 1) (aCons (eUn lenD (eVar 0)) aNil))) aNil))) aNil))
end LW
set_option Elab.async false
set_option linter.all false
set_option maxRecDepth 100000
set_option maxHeartbeats 1000000
namespace LW
open PySem DL
inductive Pat where
  | set (s : Str) | seq (ps : List Pat) | alt (ps : List Pat) | opt (p : Pat) | star (p : Pat)
mutual
def enc : Pat → D
  | .set s => .tup [.str "set", .str s]
  | .seq ps => .tup [.str "seq", .tup (encs ps)]
  | .alt ps => .tup [.str "alt", .tup (encs ps)]
  | .opt p => .tup [.str "opt", enc p]
  | .star p => .tup [.str "star", enc p]
def encs : List Pat → List D
  | [] => []
  | p :: r => enc p :: encs r
end
theorem encs_map : ∀ ps : List Pat, encs ps = ps.map enc
  | [] => rfl
  | p :: r => by rw [encs, encs_map r]; rfl
theorem enc_set (s : Str) : enc (.set s) = .tup [.str "set", .str s] := by rw [enc]
theorem enc_seq (ps : List Pat) : enc (.seq ps) = .tup [.str "seq", .tup (ps.map enc)] := by rw [enc, encs_map]
theorem enc_alt (ps : List Pat) : enc (.alt ps) = .tup [.str "alt", .tup (ps.map enc)] := by rw [enc, encs_map]
theorem enc_opt (p : Pat) : enc (.opt p) = .tup [.str "opt", enc p] := by rw [enc]
theorem enc_star (p : Pat) : enc (.star p) = .tup [.str "star", enc p] := by rw [enc]
def Pat.items : Pat → List Pat
  | .set _ => []
  | .seq ps => ps
  | .alt ps => ps
  | .opt p => [p]
  | .star p => [p]
mutual
def Pat.null : Pat → Bool
  | .set _ => false
  | .seq ps => nullAll ps
  | .alt ps => nullAny ps
  | .opt _ => true
  | .star _ => true
def nullAll : List Pat → Bool
  | [] => true
  | p :: r => p.null && nullAll r
def nullAny : List Pat → Bool
  | [] => false
  | p :: r => p.null || nullAny r
end
theorem nullAll_eq : ∀ ps : List Pat, nullAll ps = ps.all Pat.null
  | [] => rfl
  | p :: r => by rw [nullAll, nullAll_eq r]; rfl
theorem nullAny_eq : ∀ ps : List Pat, nullAny ps = ps.any Pat.null
  | [] => rfl
  | p :: r => by rw [nullAny, nullAny_eq r]; rfl
theorem null_set (s : Str) : (Pat.set s).null = false := by rw [Pat.null]
theorem null_seq (ps : List Pat) : (Pat.seq ps).null = ps.all Pat.null := by rw [Pat.null, nullAll_eq]
theorem null_alt (ps : List Pat) : (Pat.alt ps).null = ps.any Pat.null := by rw [Pat.null, nullAny_eq]
theorem null_opt (p : Pat) : (Pat.opt p).null = true := by rw [Pat.null]
theorem null_star (p : Pat) : (Pat.star p).null = true := by rw [Pat.null]
mutual
def Pat.sets : Pat → List Str
  | .set s => [s]
  | .seq ps => setsAll ps
  | .alt ps => setsAll ps
  | .opt p => p.sets
  | .star p => p.sets
def setsAll : List Pat → List Str
  | [] => []
  | p :: r => p.sets ++ setsAll r
end
theorem sets_items (p : Pat) : p.sets = match p with | .set s => [s] | _ => setsAll p.items := by
  cases p <;> simp [Pat.sets, Pat.items, setsAll]
mutual
def Pat.size : Pat → Nat
  | .set _ => 1
  | .seq ps => 1 + sizeAll ps
  | .alt ps => 1 + sizeAll ps
  | .opt p => 1 + p.size
  | .star p => 1 + p.size
def sizeAll : List Pat → Nat
  | [] => 0
  | p :: r => p.size + sizeAll r
end
theorem size_items (p : Pat) : p.size = 1 + sizeAll p.items := by
  cases p <;> simp [Pat.size, Pat.items, sizeAll]
theorem size_pos (p : Pat) : 1 ≤ p.size := by rw [size_items]; omega
theorem sizeAll_mem : ∀ {ps : List Pat} {p : Pat}, p ∈ ps → p.size ≤ sizeAll ps
  | q :: r, p, h => by
    rw [sizeAll]
    rcases List.mem_cons.mp h with z | z
    · rw [z]; omega
    · have := sizeAll_mem z
      omega
theorem size_lt {p q : Pat} (h : q ∈ p.items) : q.size < p.size := by
  rw [size_items p]
  have := sizeAll_mem h
  omega
theorem sizeAll_sum : ∀ ps : List Pat, ((ps.map fun p => (p.size : Int)).sum : Int) = sizeAll ps
  | [] => rfl
  | p :: r => by rw [List.map_cons, List.sum_cons, sizeAll_sum r, sizeAll]; omega
mutual
def Pat.stars : Pat → Bool
  | .set _ => true
  | .seq ps => starsAll ps
  | .alt ps => starsAll ps
  | .opt p => p.stars
  | .star p => !p.null && p.stars
def starsAll : List Pat → Bool
  | [] => true
  | p :: r => p.stars && starsAll r
end
theorem starsAll_eq : ∀ ps : List Pat, starsAll ps = ps.all Pat.stars
  | [] => rfl
  | p :: r => by rw [starsAll, starsAll_eq r]; rfl
def lets : List Str := ["a", "b", "c", "ab", "ac", "bc", "abc"]
mutual
def Pat.wf : Pat → Bool
  | .set s => lets.elem s
  | .seq ps => decide (2 ≤ ps.length) && decide (ps.length ≤ 4) && wfAll ps
  | .alt ps => decide (2 ≤ ps.length) && decide (ps.length ≤ 4) && wfAll ps
  | .opt p => p.wf
  | .star p => p.wf
def wfAll : List Pat → Bool
  | [] => true
  | p :: r => p.wf && wfAll r
end
theorem wfAll_eq : ∀ ps : List Pat, wfAll ps = ps.all Pat.wf
  | [] => rfl
  | p :: r => by rw [wfAll, wfAll_eq r]; rfl
@[simp] theorem k_set_set : eqD (.str "set") (.str "set") = some (.bl true) := by kernel_rfl
@[simp] theorem k_seq_set : eqD (.str "seq") (.str "set") = some (.bl false) := by kernel_rfl
@[simp] theorem k_alt_set : eqD (.str "alt") (.str "set") = some (.bl false) := by kernel_rfl
@[simp] theorem k_opt_set : eqD (.str "opt") (.str "set") = some (.bl false) := by kernel_rfl
@[simp] theorem k_star_set : eqD (.str "star") (.str "set") = some (.bl false) := by kernel_rfl
@[simp] theorem k_set_seq : eqD (.str "set") (.str "seq") = some (.bl false) := by kernel_rfl
@[simp] theorem k_seq_seq : eqD (.str "seq") (.str "seq") = some (.bl true) := by kernel_rfl
@[simp] theorem k_alt_seq : eqD (.str "alt") (.str "seq") = some (.bl false) := by kernel_rfl
@[simp] theorem k_opt_seq : eqD (.str "opt") (.str "seq") = some (.bl false) := by kernel_rfl
@[simp] theorem k_star_seq : eqD (.str "star") (.str "seq") = some (.bl false) := by kernel_rfl
@[simp] theorem k_set_alt : eqD (.str "set") (.str "alt") = some (.bl false) := by kernel_rfl
@[simp] theorem k_seq_alt : eqD (.str "seq") (.str "alt") = some (.bl false) := by kernel_rfl
@[simp] theorem k_alt_alt : eqD (.str "alt") (.str "alt") = some (.bl true) := by kernel_rfl
@[simp] theorem k_opt_alt : eqD (.str "opt") (.str "alt") = some (.bl false) := by kernel_rfl
@[simp] theorem k_star_alt : eqD (.str "star") (.str "alt") = some (.bl false) := by kernel_rfl
@[simp] theorem k_set_opt : eqD (.str "set") (.str "opt") = some (.bl false) := by kernel_rfl
@[simp] theorem k_seq_opt : eqD (.str "seq") (.str "opt") = some (.bl false) := by kernel_rfl
@[simp] theorem k_alt_opt : eqD (.str "alt") (.str "opt") = some (.bl false) := by kernel_rfl
@[simp] theorem k_opt_opt : eqD (.str "opt") (.str "opt") = some (.bl true) := by kernel_rfl
@[simp] theorem k_star_opt : eqD (.str "star") (.str "opt") = some (.bl false) := by kernel_rfl
@[simp] theorem k_set_star : eqD (.str "set") (.str "star") = some (.bl false) := by kernel_rfl
@[simp] theorem k_seq_star : eqD (.str "seq") (.str "star") = some (.bl false) := by kernel_rfl
@[simp] theorem k_alt_star : eqD (.str "alt") (.str "star") = some (.bl false) := by kernel_rfl
@[simp] theorem k_opt_star : eqD (.str "opt") (.str "star") = some (.bl false) := by kernel_rfl
@[simp] theorem k_star_star : eqD (.str "star") (.str "star") = some (.bl true) := by kernel_rfl
@[simp] theorem i_seq1 : inD (.str "seq") (.tup [.str "seq", .str "alt"]) = some (.bl true) := by rfl
@[simp] theorem i_alt1 : inD (.str "alt") (.tup [.str "seq", .str "alt"]) = some (.bl true) := by rfl
@[simp] theorem i_set1 : inD (.str "set") (.tup [.str "seq", .str "alt"]) = some (.bl false) := by rfl
@[simp] theorem i_opt1 : inD (.str "opt") (.tup [.str "seq", .str "alt"]) = some (.bl false) := by rfl
@[simp] theorem i_star1 : inD (.str "star") (.tup [.str "seq", .str "alt"]) = some (.bl false) := by rfl
@[simp] theorem i_seq2 : inD (.str "seq") (.tup [.str "opt", .str "star"]) = some (.bl false) := by rfl
@[simp] theorem i_alt2 : inD (.str "alt") (.tup [.str "opt", .str "star"]) = some (.bl false) := by rfl
@[simp] theorem i_set2 : inD (.str "set") (.tup [.str "opt", .str "star"]) = some (.bl false) := by rfl
@[simp] theorem i_opt2 : inD (.str "opt") (.tup [.str "opt", .str "star"]) = some (.bl true) := by rfl
@[simp] theorem i_star2 : inD (.str "star") (.tup [.str "opt", .str "star"]) = some (.bl true) := by rfl
@[simp] theorem at0 (a b : D) : L2.atI [a, b] 0 = some a := by rfl
@[simp] theorem at1 (a b : D) : L2.atI [a, b] 1 = some b := by rfl
@[simp] theorem x0_set (s : Str) : ixD (enc (.set s)) (.int 0) = some (.str "set") := by rw [enc_set]; rfl
@[simp] theorem x1_set (s : Str) : ixD (enc (.set s)) (.int 1) = some (.str s) := by rw [enc_set]; rfl
@[simp] theorem x0_seq (ps : List Pat) : ixD (enc (.seq ps)) (.int 0) = some (.str "seq") := by rw [enc_seq]; rfl
@[simp] theorem x1_seq (ps : List Pat) : ixD (enc (.seq ps)) (.int 1) = some (.tup (ps.map enc)) := by rw [enc_seq]; rfl
@[simp] theorem x0_alt (ps : List Pat) : ixD (enc (.alt ps)) (.int 0) = some (.str "alt") := by rw [enc_alt]; rfl
@[simp] theorem x1_alt (ps : List Pat) : ixD (enc (.alt ps)) (.int 1) = some (.tup (ps.map enc)) := by rw [enc_alt]; rfl
@[simp] theorem x0_opt (p : Pat) : ixD (enc (.opt p)) (.int 0) = some (.str "opt") := by rw [enc_opt]; rfl
@[simp] theorem x1_opt (p : Pat) : ixD (enc (.opt p)) (.int 1) = some (enc p) := by rw [enc_opt]; rfl
@[simp] theorem x0_star (p : Pat) : ixD (enc (.star p)) (.int 0) = some (.str "star") := by rw [enc_star]; rfl
@[simp] theorem x1_star (p : Pat) : ixD (enc (.star p)) (.int 1) = some (enc p) := by rw [enc_star]; rfl
@[simp] theorem len_enc (p : Pat) : lenD (enc p) = some (.int 2) := by cases p <;> rw [enc] <;> rfl
@[simp] theorem isi_enc (p : Pat) : isiD "tuple" (enc p) = some (.bl true) := by cases p <;> rw [enc] <;> rfl
theorem comp_enc {α : Type} {vs : List Nat} {f : Tg} {te : M D} {env : DL.Env} {en g : α → D} {xs : List α} (h : ∀ x ∈ xs, ∃ e1 e3, f (en x) env = some e1 ∧ te e1 = .ok (g x) e3 ∧ wipeE e3 vs = env) : compD vs f bYes te (xs.map en) env = .ok (xs.map g) env := by
  induction xs with
  | nil => rfl
  | cons d r ih =>
    obtain ⟨e1, e3, h1, h2, h3⟩ := h d List.mem_cons_self
    rw [List.map_cons, v_comp_cons, h1, optRes_some, v_bYes, noX_ok', bind_ok, if_pos rfl, h2, noX_ok', bind_ok, h3, ih fun d hd => h d (List.mem_cons_of_mem _ hd)]
    rfl
theorem items_ok (p : Pat) : f_items_of [.dat (enc p)] = .rt (.tup (p.items.map enc)) [.dat (enc p)] := by
  cases p <;> simp [f_items_of, b_items_of, v_sSeq, v_for_nil, v_for_cons, v_sFor, v_sAsg, v_gNm, v_gTu, v_gNo, v_gCo, v_sRet, v_sExp, v_sIf, v_sNil, v_sRaise, v_sBrk, v_fnD, v_eC, v_eVar, v_wVar, v_eOp, v_eUn, v_asB, v_bAnd, v_bOr, v_bNot, v_eIf, v_eAnd, v_eOr, v_eNot, v_bYes, v_aNil, v_aCons, v_eTup, v_eLst, v_oLst, v_eCall, v_eFrz, v_sOwn, v_iLst, v_iTpl, v_xNil, v_xDat, v_runX, v_eFn, v_oLc, slotsX, callR, endF, backA, backX, wipeE, back1, Pat.items]
theorem len_sizeAll : ∀ ps : List Pat, ps.length ≤ sizeAll ps
  | [] => Nat.le_refl _
  | p :: r => by
    have := len_sizeAll r
    have := size_pos p
    rw [sizeAll, List.length_cons]
    omega
theorem len_items (p : Pat) : p.items.length < p.size := by
  have := len_sizeAll p.items
  rw [size_items p]
  omega
theorem nullable_ok : ∀ (k : Nat) (p : Pat), p.size ≤ k → k ≤ 1000 → f_nullable k [.dat (enc p)] = .rt (.bl p.null) [.dat (enc p)]
  | 0, p, h, _ => by
    have := size_pos p
    omega
  | k + 1, p, h, hk => by
    have hl := len_items p
    have hl2 : p.items.length ≤ 1000000 := by omega
    have hc : ∀ q ∈ p.items, f_nullable k [.dat (enc q)] = .rt (.bl q.null) [.dat (enc q)] := fun q hq => nullable_ok k q (by have := size_lt hq; omega) (by omega)
    have hm : compD [2] (gNm 2) bYes (eFn 0 1 (f_nullable k) (xDat (eVar 2) xNil)) (p.items.map enc) [.dat (enc p), .emp, .emp] = .ok (p.items.map fun q => .bl q.null) [.dat (enc p), .emp, .emp] :=
      comp_enc fun q hq => ⟨[.dat (enc p), .emp, .dat (enc q)], [.dat (enc p), .emp, .dat (enc q)], rfl, by simp [v_sSeq, v_for_nil, v_for_cons, v_sFor, v_sAsg, v_gNm, v_gTu, v_gNo, v_gCo, v_sRet, v_sExp, v_sIf, v_sNil, v_sRaise, v_sBrk, v_fnD, v_eC, v_eVar, v_wVar, v_eOp, v_eUn, v_asB, v_bAnd, v_bOr, v_bNot, v_eIf, v_eAnd, v_eOr, v_eNot, v_bYes, v_aNil, v_aCons, v_eTup, v_eLst, v_oLst, v_eCall, v_eFrz, v_sOwn, v_iLst, v_iTpl, v_xNil, v_xDat, v_runX, v_eFn, v_oLc, slotsX, callR, endF, backA, backX, wipeE, back1, hc q hq], rfl⟩
    rw [f_nullable, v_fnD]
    cases p <;> simp [b_nullable, v_sSeq, v_for_nil, v_for_cons, v_sFor, v_sAsg, v_gNm, v_gTu, v_gNo, v_gCo, v_sRet, v_sExp, v_sIf, v_sNil, v_sRaise, v_sBrk, v_fnD, v_eC, v_eVar, v_wVar, v_eOp, v_eUn, v_asB, v_bAnd, v_bOr, v_bNot, v_eIf, v_eAnd, v_eOr, v_eNot, v_bYes, v_aNil, v_aCons, v_eTup, v_eLst, v_oLst, v_eCall, v_eFrz, v_sOwn, v_iLst, v_iTpl, v_xNil, v_xDat, v_runX, v_eFn, v_oLc, slotsX, callR, endF, backA, backX, wipeE, back1, items_ok, hl2, hm] <;> simp [Pat.items, null_set, null_seq, null_alt, null_opt, null_star]
theorem stars_ok : ∀ (k : Nat) (p : Pat), p.size ≤ k → k ≤ 20 → f_stars_are_good k [.dat (enc p)] = .rt (.bl p.stars) [.dat (enc p)]
  | 0, p, h, _ => by
    have := size_pos p
    omega
  | k + 1, p, h, hk => by
    have hl := len_items p
    have hl2 : p.items.length ≤ 1000000 := by omega
    have hc : ∀ q ∈ p.items, f_stars_are_good k [.dat (enc q)] = .rt (.bl q.stars) [.dat (enc q)] := fun q hq => stars_ok k q (by have := size_lt hq; omega) (by omega)
    have hn : ∀ q ∈ p.items, f_nullable 20 [.dat (enc q)] = .rt (.bl q.null) [.dat (enc q)] := fun q hq => nullable_ok 20 q (by have := size_lt hq; omega) (by omega)
    have hm : compD [1] (gNm 1) bYes (eFn 0 1 (f_stars_are_good k) (xDat (eVar 1) xNil)) (p.items.map enc) [.dat (enc p), .emp] = .ok (p.items.map fun q => .bl q.stars) [.dat (enc p), .emp] :=
      comp_enc fun q hq => ⟨[.dat (enc p), .dat (enc q)], [.dat (enc p), .dat (enc q)], rfl, by simp [v_sSeq, v_for_nil, v_for_cons, v_sFor, v_sAsg, v_gNm, v_gTu, v_gNo, v_gCo, v_sRet, v_sExp, v_sIf, v_sNil, v_sRaise, v_sBrk, v_fnD, v_eC, v_eVar, v_wVar, v_eOp, v_eUn, v_asB, v_bAnd, v_bOr, v_bNot, v_eIf, v_eAnd, v_eOr, v_eNot, v_bYes, v_aNil, v_aCons, v_eTup, v_eLst, v_oLst, v_eCall, v_eFrz, v_sOwn, v_iLst, v_iTpl, v_xNil, v_xDat, v_runX, v_eFn, v_oLc, slotsX, callR, endF, backA, backX, wipeE, back1, hc q hq], rfl⟩
    rw [f_stars_are_good, v_fnD]
    cases p with
    | star q =>
      have hn := hn q (by simp [Pat.items])
      cases hq : q.null <;> simp [b_stars_are_good, v_sSeq, v_for_nil, v_for_cons, v_sFor, v_sAsg, v_gNm, v_gTu, v_gNo, v_gCo, v_sRet, v_sExp, v_sIf, v_sNil, v_sRaise, v_sBrk, v_fnD, v_eC, v_eVar, v_wVar, v_eOp, v_eUn, v_asB, v_bAnd, v_bOr, v_bNot, v_eIf, v_eAnd, v_eOr, v_eNot, v_bYes, v_aNil, v_aCons, v_eTup, v_eLst, v_oLst, v_eCall, v_eFrz, v_sOwn, v_iLst, v_iTpl, v_xNil, v_xDat, v_runX, v_eFn, v_oLc, slotsX, callR, endF, backA, backX, wipeE, back1, items_ok, hl2, hm, hn, hq] <;> simp [Pat.items, Pat.stars, hq]
    | _ => simp [b_stars_are_good, v_sSeq, v_for_nil, v_for_cons, v_sFor, v_sAsg, v_gNm, v_gTu, v_gNo, v_gCo, v_sRet, v_sExp, v_sIf, v_sNil, v_sRaise, v_sBrk, v_fnD, v_eC, v_eVar, v_wVar, v_eOp, v_eUn, v_asB, v_bAnd, v_bOr, v_bNot, v_eIf, v_eAnd, v_eOr, v_eNot, v_bYes, v_aNil, v_aCons, v_eTup, v_eLst, v_oLst, v_eCall, v_eFrz, v_sOwn, v_iLst, v_iTpl, v_xNil, v_xDat, v_runX, v_eFn, v_oLc, slotsX, callR, endF, backA, backX, wipeE, back1, items_ok, hl2, hm] <;> simp [Pat.items, Pat.stars, starsAll_eq]
theorem count_ok : ∀ (k : Nat) (p : Pat), p.size ≤ k → k ≤ 1000 → f_node_count k [.dat (enc p)] = .rt (.int p.size) [.dat (enc p)]
  | 0, p, h, _ => by
    have := size_pos p
    omega
  | k + 1, p, h, hk => by
    have hl := len_items p
    have hl2 : p.items.length ≤ 1000000 := by omega
    have hc : ∀ q ∈ p.items, f_node_count k [.dat (enc q)] = .rt (.int q.size) [.dat (enc q)] := fun q hq => count_ok k q (by have := size_lt hq; omega) (by omega)
    have hm : compD [1] (gNm 1) bYes (eFn 0 1 (f_node_count k) (xDat (eVar 1) xNil)) (p.items.map enc) [.dat (enc p), .emp] = .ok (p.items.map fun q => .int q.size) [.dat (enc p), .emp] :=
      comp_enc fun q hq => ⟨[.dat (enc p), .dat (enc q)], [.dat (enc p), .dat (enc q)], rfl, by simp [v_sSeq, v_for_nil, v_for_cons, v_sFor, v_sAsg, v_gNm, v_gTu, v_gNo, v_gCo, v_sRet, v_sExp, v_sIf, v_sNil, v_sRaise, v_sBrk, v_fnD, v_eC, v_eVar, v_wVar, v_eOp, v_eUn, v_asB, v_bAnd, v_bOr, v_bNot, v_eIf, v_eAnd, v_eOr, v_eNot, v_bYes, v_aNil, v_aCons, v_eTup, v_eLst, v_oLst, v_eCall, v_eFrz, v_sOwn, v_iLst, v_iTpl, v_xNil, v_xDat, v_runX, v_eFn, v_oLc, slotsX, callR, endF, backA, backX, wipeE, back1, hc q hq], rfl⟩
    rw [f_node_count, v_fnD]
    simp [b_node_count, v_sSeq, v_for_nil, v_for_cons, v_sFor, v_sAsg, v_gNm, v_gTu, v_gNo, v_gCo, v_sRet, v_sExp, v_sIf, v_sNil, v_sRaise, v_sBrk, v_fnD, v_eC, v_eVar, v_wVar, v_eOp, v_eUn, v_asB, v_bAnd, v_bOr, v_bNot, v_eIf, v_eAnd, v_eOr, v_eNot, v_bYes, v_aNil, v_aCons, v_eTup, v_eLst, v_oLst, v_eCall, v_eFrz, v_sOwn, v_iLst, v_iTpl, v_xNil, v_xDat, v_runX, v_eFn, v_oLc, slotsX, callR, endF, backA, backX, wipeE, back1, items_ok, hl2, hm]
    rw [sizeAll_sum, size_items p]
    omega
mutual
theorem sets_le : ∀ p : Pat, p.sets.length ≤ p.size
  | .set s => by simp [Pat.sets, Pat.size]
  | .seq ps => by have := setsAll_le ps; simp [Pat.sets, Pat.size]; omega
  | .alt ps => by have := setsAll_le ps; simp [Pat.sets, Pat.size]; omega
  | .opt p => by have := sets_le p; simp [Pat.sets, Pat.size]; omega
  | .star p => by have := sets_le p; simp [Pat.sets, Pat.size]; omega
theorem setsAll_le : ∀ ps : List Pat, (setsAll ps).length ≤ sizeAll ps
  | [] => by simp [setsAll]
  | p :: r => by have := sets_le p; have := setsAll_le r; simp [setsAll, sizeAll]; omega
end
theorem sizeLine_ge : 1000000 ≤ sizeLine := by decide +kernel
@[simp] theorem addD_tup (xs ys : List D) : addD (.tup xs) (.tup ys) = if xs.length + ys.length ≤ sizeLine then some (.tup (xs ++ ys)) else none := rfl
@[simp] theorem addD_lst (xs ys : List D) : addD (.lst xs) (.lst ys) = if xs.length + ys.length ≤ sizeLine then some (.lst (xs ++ ys)) else none := rfl
theorem sets_loop {r : Fn} {d0 : D} : ∀ (ps : List Pat) (acc : List D) (s2 : Slot), (∀ q ∈ ps, r [.dat (enc q)] = .rt (.tup (q.sets.map .str)) [.dat (enc q)]) → acc.length + (setsAll ps).length ≤ 1000000 →
    ∃ s2', forD (gNm 2) (sAsg (eOp addD (eVar 1) (eFn 0 1 r (xDat (eVar 2) xNil))) (gNm 1)) (ps.map enc) [.dat d0, .dat (.tup acc), s2] = .nx [.dat d0, .dat (.tup (acc ++ (setsAll ps).map .str)), s2']
  | [], acc, s2, _, _ => ⟨s2, by simp [v_sSeq, v_for_nil, v_for_cons, v_sFor, v_sAsg, v_gNm, v_gTu, v_gNo, v_gCo, v_sRet, v_sExp, v_sIf, v_sNil, v_sRaise, v_sBrk, v_fnD, v_eC, v_eVar, v_wVar, v_eOp, v_eUn, v_asB, v_bAnd, v_bOr, v_bNot, v_eIf, v_eAnd, v_eOr, v_eNot, v_bYes, v_aNil, v_aCons, v_eTup, v_eLst, v_oLst, v_eCall, v_eFrz, v_sOwn, v_iLst, v_iTpl, v_xNil, v_xDat, v_runX, v_eFn, v_oLc, slotsX, callR, endF, backA, backX, wipeE, back1, setsAll]⟩
  | q :: ps, acc, s2, h, hl => by
    have hq := h q List.mem_cons_self
    rw [setsAll, List.length_append] at hl
    have hs : acc.length + q.sets.length ≤ sizeLine := by have := sizeLine_ge; omega
    obtain ⟨s2', ih⟩ := sets_loop (d0 := d0) ps (acc ++ q.sets.map .str) (.dat (enc q)) (fun q hq => h q (List.mem_cons_of_mem _ hq)) (by simp; omega)
    refine ⟨s2', ?_⟩
    rw [List.map_cons, setsAll]
    simp [v_sSeq, v_for_nil, v_for_cons, v_sFor, v_sAsg, v_gNm, v_gTu, v_gNo, v_gCo, v_sRet, v_sExp, v_sIf, v_sNil, v_sRaise, v_sBrk, v_fnD, v_eC, v_eVar, v_wVar, v_eOp, v_eUn, v_asB, v_bAnd, v_bOr, v_bNot, v_eIf, v_eAnd, v_eOr, v_eNot, v_bYes, v_aNil, v_aCons, v_eTup, v_eLst, v_oLst, v_eCall, v_eFrz, v_sOwn, v_iLst, v_iTpl, v_xNil, v_xDat, v_runX, v_eFn, v_oLc, slotsX, callR, endF, backA, backX, wipeE, back1, hq, hs, ih]
theorem sets_ok : ∀ (k : Nat) (p : Pat), p.size ≤ k → k ≤ 1000 → f_all_sets k [.dat (enc p)] = .rt (.tup (p.sets.map .str)) [.dat (enc p)]
  | 0, p, h, _ => by
    have := size_pos p
    omega
  | k + 1, p, h, hk => by
    have hc : ∀ q ∈ p.items, f_all_sets k [.dat (enc q)] = .rt (.tup (q.sets.map .str)) [.dat (enc q)] := fun q hq => sets_ok k q (by have := size_lt hq; omega) (by omega)
    have hs := setsAll_le p.items
    have hz := size_items p
    obtain ⟨s2', hf⟩ := sets_loop (d0 := enc p) p.items [] .emp hc (by simp; omega)
    rw [f_all_sets, v_fnD, sets_items p]
    cases p <;> simp [b_all_sets, v_sSeq, v_for_nil, v_for_cons, v_sFor, v_sAsg, v_gNm, v_gTu, v_gNo, v_gCo, v_sRet, v_sExp, v_sIf, v_sNil, v_sRaise, v_sBrk, v_fnD, v_eC, v_eVar, v_wVar, v_eOp, v_eUn, v_asB, v_bAnd, v_bOr, v_bNot, v_eIf, v_eAnd, v_eOr, v_eNot, v_bYes, v_aNil, v_aCons, v_eTup, v_eLst, v_oLst, v_eCall, v_eFrz, v_sOwn, v_iLst, v_iTpl, v_xNil, v_xDat, v_runX, v_eFn, v_oLc, slotsX, callR, endF, backA, backX, wipeE, back1, items_ok] <;> simp [Pat.items, v_sSeq, v_for_nil, v_for_cons, v_sFor, v_sAsg, v_gNm, v_gTu, v_gNo, v_gCo, v_sRet, v_sExp, v_sIf, v_sNil, v_sRaise, v_sBrk, v_fnD, v_eC, v_eVar, v_wVar, v_eOp, v_eUn, v_asB, v_bAnd, v_bOr, v_bNot, v_eIf, v_eAnd, v_eOr, v_eNot, v_bYes, v_aNil, v_aCons, v_eTup, v_eLst, v_oLst, v_eCall, v_eFrz, v_sOwn, v_iLst, v_iTpl, v_xNil, v_xDat, v_runX, v_eFn, v_oLc, slotsX, callR, endF, backA, backX, wipeE, back1] at hf ⊢ <;> simp [hf, v_sSeq, v_for_nil, v_for_cons, v_sFor, v_sAsg, v_gNm, v_gTu, v_gNo, v_gCo, v_sRet, v_sExp, v_sIf, v_sNil, v_sRaise, v_sBrk, v_fnD, v_eC, v_eVar, v_wVar, v_eOp, v_eUn, v_asB, v_bAnd, v_bOr, v_bNot, v_eIf, v_eAnd, v_eOr, v_eNot, v_bYes, v_aNil, v_aCons, v_eTup, v_eLst, v_oLst, v_eCall, v_eFrz, v_sOwn, v_iLst, v_iTpl, v_xNil, v_xDat, v_runX, v_eFn, v_oLc, slotsX, callR, endF, backA, backX, wipeE, back1]
theorem letters_ok {s : Str} (h : lets.elem s = true) : f_is_letters [.dat (.str s)] = .rt (.bl true) [.dat (.str s)] := by
  have h2 : s ∈ lets := List.elem_iff.mp h
  have key : ∀ s ∈ lets, (match f_is_letters [.dat (.str s)] with | .rt (.bl true) [.dat (.str t)] => decide (t = s) | _ => false) = true := by decide +kernel
  have k := key s h2
  revert k
  split
  · rename_i t e
    intro k
    rw [e, of_decide_eq_true k]
  · intro k; cases k
@[simp] theorem chain_ok (f g : D → D → Option D) (a b c : M D) (env : DL.Env) : eChain f g a b c env = (a env).bind fun x e1 => (b e1).bind fun y e2 => (lift (f x y) e2).bind fun z e3 => (match z with | .bl true => (c e3).bind fun w e4 => lift (g y w) e4 | .bl false => .ok (.bl false) e3 | _ => .bad) := by
  rfl
@[simp] theorem isi_tup (ds : List D) : isiD "tuple" (.tup ds) = some (.bl true) := rfl
@[simp] theorem isi_strs (s : Str) : isiD "str" (.str s) = some (.bl true) := rfl
theorem shape_ok : ∀ (k : Nat) (p : Pat) (d : Int), p.size ≤ k → k ≤ 1000 → p.size ≤ d → p.wf = true → f_has_shape k [.dat (enc p), .dat (.int d)] = .rt (.bl true) [.dat (enc p), .dat (.int d)]
  | 0, p, d, h, _, _, _ => by
    have := size_pos p
    omega
  | k + 1, p, d, h, hk, hd, hw => by
    have hp := size_pos p
    have hd0 : ¬ d = 0 := by omega
    have hc : ∀ q ∈ p.items, q.wf = true → f_has_shape k [.dat (enc q), .dat (.int (d - 1))] = .rt (.bl true) [.dat (enc q), .dat (.int (d - 1))] := fun q hq hw => shape_ok k q (d - 1) (by have := size_lt hq; omega) (by omega) (by have := size_lt hq; omega) hw
    have hm : ∀ ps : List Pat, (∀ q ∈ ps, q ∈ p.items ∧ q.wf = true) → compD [2] (gNm 2) bYes (eFn 0 2 (f_has_shape k) (xDat (eVar 2) (xDat (eOp subD (eVar 1) (eC (.int 1))) xNil))) (ps.map enc) [.dat (enc p), .dat (.int d), .emp] = .ok (ps.map fun q => .bl true) [.dat (enc p), .dat (.int d), .emp] := fun ps hps =>
      comp_enc fun q hq => ⟨[.dat (enc p), .dat (.int d), .dat (enc q)], [.dat (enc p), .dat (.int d), .dat (enc q)], rfl, by simp [v_sSeq, v_for_nil, v_for_cons, v_sFor, v_sAsg, v_gNm, v_gTu, v_gNo, v_gCo, v_sRet, v_sExp, v_sIf, v_sNil, v_sRaise, v_sBrk, v_fnD, v_eC, v_eVar, v_wVar, v_eOp, v_eUn, v_asB, v_bAnd, v_bOr, v_bNot, v_eIf, v_eAnd, v_eOr, v_eNot, v_bYes, v_aNil, v_aCons, v_eTup, v_eLst, v_oLst, v_eCall, v_eFrz, v_sOwn, v_iLst, v_iTpl, v_xNil, v_xDat, v_runX, v_eFn, v_oLc, slotsX, callR, endF, backA, backX, wipeE, back1, hc q (hps q hq).1 (hps q hq).2], rfl⟩
    rw [f_has_shape, v_fnD]
    cases p with
    | set s =>
      rw [Pat.wf] at hw
      simp [b_has_shape, v_sSeq, v_for_nil, v_for_cons, v_sFor, v_sAsg, v_gNm, v_gTu, v_gNo, v_gCo, v_sRet, v_sExp, v_sIf, v_sNil, v_sRaise, v_sBrk, v_fnD, v_eC, v_eVar, v_wVar, v_eOp, v_eUn, v_asB, v_bAnd, v_bOr, v_bNot, v_eIf, v_eAnd, v_eOr, v_eNot, v_bYes, v_aNil, v_aCons, v_eTup, v_eLst, v_oLst, v_eCall, v_eFrz, v_sOwn, v_iLst, v_iTpl, v_xNil, v_xDat, v_runX, v_eFn, v_oLc, slotsX, callR, endF, backA, backX, wipeE, back1, hd0, letters_ok hw]
    | opt q =>
      rw [Pat.wf] at hw
      simp [b_has_shape, v_sSeq, v_for_nil, v_for_cons, v_sFor, v_sAsg, v_gNm, v_gTu, v_gNo, v_gCo, v_sRet, v_sExp, v_sIf, v_sNil, v_sRaise, v_sBrk, v_fnD, v_eC, v_eVar, v_wVar, v_eOp, v_eUn, v_asB, v_bAnd, v_bOr, v_bNot, v_eIf, v_eAnd, v_eOr, v_eNot, v_bYes, v_aNil, v_aCons, v_eTup, v_eLst, v_oLst, v_eCall, v_eFrz, v_sOwn, v_iLst, v_iTpl, v_xNil, v_xDat, v_runX, v_eFn, v_oLc, slotsX, callR, endF, backA, backX, wipeE, back1, hd0, hc q (by simp [Pat.items]) hw]
    | star q =>
      rw [Pat.wf] at hw
      simp [b_has_shape, v_sSeq, v_for_nil, v_for_cons, v_sFor, v_sAsg, v_gNm, v_gTu, v_gNo, v_gCo, v_sRet, v_sExp, v_sIf, v_sNil, v_sRaise, v_sBrk, v_fnD, v_eC, v_eVar, v_wVar, v_eOp, v_eUn, v_asB, v_bAnd, v_bOr, v_bNot, v_eIf, v_eAnd, v_eOr, v_eNot, v_bYes, v_aNil, v_aCons, v_eTup, v_eLst, v_oLst, v_eCall, v_eFrz, v_sOwn, v_iLst, v_iTpl, v_xNil, v_xDat, v_runX, v_eFn, v_oLc, slotsX, callR, endF, backA, backX, wipeE, back1, hd0, hc q (by simp [Pat.items]) hw]
    | seq ps =>
      rw [Pat.wf, wfAll_eq] at hw
      simp only [Bool.and_eq_true, decide_eq_true_eq, List.all_eq_true] at hw
      obtain ⟨⟨h2, h4⟩, hw⟩ := hw
      have h2' : (2 : Int) ≤ ps.length := by omega
      have h4' : (ps.length : Int) ≤ 4 := by omega
      have h6 : ps.length ≤ 1000000 := by omega
      have hm := hm ps fun q hq => ⟨hq, hw q hq⟩
      simp [b_has_shape, v_sSeq, v_for_nil, v_for_cons, v_sFor, v_sAsg, v_gNm, v_gTu, v_gNo, v_gCo, v_sRet, v_sExp, v_sIf, v_sNil, v_sRaise, v_sBrk, v_fnD, v_eC, v_eVar, v_wVar, v_eOp, v_eUn, v_asB, v_bAnd, v_bOr, v_bNot, v_eIf, v_eAnd, v_eOr, v_eNot, v_bYes, v_aNil, v_aCons, v_eTup, v_eLst, v_oLst, v_eCall, v_eFrz, v_sOwn, v_iLst, v_iTpl, v_xNil, v_xDat, v_runX, v_eFn, v_oLc, slotsX, callR, endF, backA, backX, wipeE, back1, hd0, h2', h4', h6, hm]
    | alt ps =>
      rw [Pat.wf, wfAll_eq] at hw
      simp only [Bool.and_eq_true, decide_eq_true_eq, List.all_eq_true] at hw
      obtain ⟨⟨h2, h4⟩, hw⟩ := hw
      have h2' : (2 : Int) ≤ ps.length := by omega
      have h4' : (ps.length : Int) ≤ 4 := by omega
      have h6 : ps.length ≤ 1000000 := by omega
      have hm := hm ps fun q hq => ⟨hq, hw q hq⟩
      simp [b_has_shape, v_sSeq, v_for_nil, v_for_cons, v_sFor, v_sAsg, v_gNm, v_gTu, v_gNo, v_gCo, v_sRet, v_sExp, v_sIf, v_sNil, v_sRaise, v_sBrk, v_fnD, v_eC, v_eVar, v_wVar, v_eOp, v_eUn, v_asB, v_bAnd, v_bOr, v_bNot, v_eIf, v_eAnd, v_eOr, v_eNot, v_bYes, v_aNil, v_aCons, v_eTup, v_eLst, v_oLst, v_eCall, v_eFrz, v_sOwn, v_iLst, v_iTpl, v_xNil, v_xDat, v_runX, v_eFn, v_oLc, slotsX, callR, endF, backA, backX, wipeE, back1, hd0, h2', h4', h6, hm]
def Pat.good (p : Pat) : Bool := decide (p.size ≤ 16) && decide (p.sets.length ≤ 8) && p.stars
theorem is_pattern_ok {p : Pat} (hw : p.wf = true) (hs : p.size ≤ 17) : f_is_pattern [.dat (enc p)] = .rt (.bl p.good) [.dat (enc p)] := by
  have h1 := shape_ok 20 p 17 (by omega) (by omega) (by omega) hw
  have h2 := count_ok 20 p (by omega) (by omega)
  have h3 := sets_ok 20 p (by omega) (by omega)
  have h4 := stars_ok 20 p (by omega) (by omega)
  rw [f_is_pattern, v_fnD]
  have e1 : decide ((p.size : Int) ≤ 16) = decide (p.size ≤ 16) := by congr 1; exact propext ⟨fun h => by omega, fun h => by omega⟩
  have e2 : decide ((p.sets.length : Int) ≤ 8) = decide (p.sets.length ≤ 8) := by congr 1; exact propext ⟨fun h => by omega, fun h => by omega⟩
  by_cases a : p.size ≤ 16
  · by_cases b : p.sets.length ≤ 8
    · simp [b_is_pattern, v_sSeq, v_for_nil, v_for_cons, v_sFor, v_sAsg, v_gNm, v_gTu, v_gNo, v_gCo, v_sRet, v_sExp, v_sIf, v_sNil, v_sRaise, v_sBrk, v_fnD, v_eC, v_eVar, v_wVar, v_eOp, v_eUn, v_asB, v_bAnd, v_bOr, v_bNot, v_eIf, v_eAnd, v_eOr, v_eNot, v_bYes, v_aNil, v_aCons, v_eTup, v_eLst, v_oLst, v_eCall, v_eFrz, v_sOwn, v_iLst, v_iTpl, v_xNil, v_xDat, v_runX, v_eFn, v_oLc, slotsX, callR, endF, backA, backX, wipeE, back1, h1, h2, h3, h4, Pat.good, e1, e2, a, b]
    · simp [b_is_pattern, v_sSeq, v_for_nil, v_for_cons, v_sFor, v_sAsg, v_gNm, v_gTu, v_gNo, v_gCo, v_sRet, v_sExp, v_sIf, v_sNil, v_sRaise, v_sBrk, v_fnD, v_eC, v_eVar, v_wVar, v_eOp, v_eUn, v_asB, v_bAnd, v_bOr, v_bNot, v_eIf, v_eAnd, v_eOr, v_eNot, v_bYes, v_aNil, v_aCons, v_eTup, v_eLst, v_oLst, v_eCall, v_eFrz, v_sOwn, v_iLst, v_iTpl, v_xNil, v_xDat, v_runX, v_eFn, v_oLc, slotsX, callR, endF, backA, backX, wipeE, back1, h1, h2, h3, h4, Pat.good, e1, e2, a, b]
  · simp [b_is_pattern, v_sSeq, v_for_nil, v_for_cons, v_sFor, v_sAsg, v_gNm, v_gTu, v_gNo, v_gCo, v_sRet, v_sExp, v_sIf, v_sNil, v_sRaise, v_sBrk, v_fnD, v_eC, v_eVar, v_wVar, v_eOp, v_eUn, v_asB, v_bAnd, v_bOr, v_bNot, v_eIf, v_eAnd, v_eOr, v_eNot, v_bYes, v_aNil, v_aCons, v_eTup, v_eLst, v_oLst, v_eCall, v_eFrz, v_sOwn, v_iLst, v_iTpl, v_xNil, v_xDat, v_runX, v_eFn, v_oLc, slotsX, callR, endF, backA, backX, wipeE, back1, h1, h2, h3, h4, Pat.good, e1, e2, a]
theorem check_ok {p : Pat} (hw : p.wf = true) (hg : p.good = true) : f_check_pattern [.dat (enc p)] = .rt .non [.dat (enc p)] := by
  have hs : p.size ≤ 17 := by
    simp only [Pat.good, Bool.and_eq_true, decide_eq_true_eq] at hg
    omega
  rw [f_check_pattern, v_fnD]
  simp [b_check_pattern, v_sSeq, v_for_nil, v_for_cons, v_sFor, v_sAsg, v_gNm, v_gTu, v_gNo, v_gCo, v_sRet, v_sExp, v_sIf, v_sNil, v_sRaise, v_sBrk, v_fnD, v_eC, v_eVar, v_wVar, v_eOp, v_eUn, v_asB, v_bAnd, v_bOr, v_bNot, v_eIf, v_eAnd, v_eOr, v_eNot, v_bYes, v_aNil, v_aCons, v_eTup, v_eLst, v_oLst, v_eCall, v_eFrz, v_sOwn, v_iLst, v_iTpl, v_xNil, v_xDat, v_runX, v_eFn, v_oLc, slotsX, callR, endF, backA, backX, wipeE, back1, is_pattern_ok hw hs, hg]
theorem is_nullable_ok {p : Pat} (hw : p.wf = true) (hg : p.good = true) : f_is_nullable [.dat (enc p)] = .rt (.bl p.null) [.dat (enc p)] := by
  have hs : p.size ≤ 17 := by
    simp only [Pat.good, Bool.and_eq_true, decide_eq_true_eq] at hg
    omega
  rw [f_is_nullable, v_fnD]
  simp [b_is_nullable, v_sSeq, v_for_nil, v_for_cons, v_sFor, v_sAsg, v_gNm, v_gTu, v_gNo, v_gCo, v_sRet, v_sExp, v_sIf, v_sNil, v_sRaise, v_sBrk, v_fnD, v_eC, v_eVar, v_wVar, v_eOp, v_eUn, v_asB, v_bAnd, v_bOr, v_bNot, v_eIf, v_eAnd, v_eOr, v_eNot, v_bYes, v_aNil, v_aCons, v_eTup, v_eLst, v_oLst, v_eCall, v_eFrz, v_sOwn, v_iLst, v_iTpl, v_xNil, v_xDat, v_runX, v_eFn, v_oLc, slotsX, callR, endF, backA, backX, wipeE, back1, check_ok hw hg, nullable_ok 20 p (by omega) (by omega)]
theorem sets_pub {p : Pat} (hw : p.wf = true) (hg : p.good = true) : f_sets [.dat (enc p)] = .rt (.tup (p.sets.map .str)) [.dat (enc p)] := by
  have hs : p.size ≤ 17 := by
    simp only [Pat.good, Bool.and_eq_true, decide_eq_true_eq] at hg
    omega
  rw [f_sets, v_fnD]
  simp [b_sets, v_sSeq, v_for_nil, v_for_cons, v_sFor, v_sAsg, v_gNm, v_gTu, v_gNo, v_gCo, v_sRet, v_sExp, v_sIf, v_sNil, v_sRaise, v_sBrk, v_fnD, v_eC, v_eVar, v_wVar, v_eOp, v_eUn, v_asB, v_bAnd, v_bOr, v_bNot, v_eIf, v_eAnd, v_eOr, v_eNot, v_bYes, v_aNil, v_aCons, v_eTup, v_eLst, v_oLst, v_eCall, v_eFrz, v_sOwn, v_iLst, v_iTpl, v_xNil, v_xDat, v_runX, v_eFn, v_oLc, slotsX, callR, endF, backA, backX, wipeE, back1, check_ok hw hg, sets_ok 20 p (by omega) (by omega)]
theorem size_pub {p : Pat} (hw : p.wf = true) (hg : p.good = true) : f_size [.dat (enc p)] = .rt (.int p.size) [.dat (enc p)] := by
  have hs : p.size ≤ 17 := by
    simp only [Pat.good, Bool.and_eq_true, decide_eq_true_eq] at hg
    omega
  rw [f_size, v_fnD]
  simp [b_size, v_sSeq, v_for_nil, v_for_cons, v_sFor, v_sAsg, v_gNm, v_gTu, v_gNo, v_gCo, v_sRet, v_sExp, v_sIf, v_sNil, v_sRaise, v_sBrk, v_fnD, v_eC, v_eVar, v_wVar, v_eOp, v_eUn, v_asB, v_bAnd, v_bOr, v_bNot, v_eIf, v_eAnd, v_eOr, v_eNot, v_bYes, v_aNil, v_aCons, v_eTup, v_eLst, v_oLst, v_eCall, v_eFrz, v_sOwn, v_iLst, v_iTpl, v_xNil, v_xDat, v_runX, v_eFn, v_oLc, slotsX, callR, endF, backA, backX, wipeE, back1, check_ok hw hg, count_ok 20 p (by omega) (by omega)]
end LW
set_option Elab.async false
set_option linter.all false
set_option maxRecDepth 100000
set_option maxHeartbeats 1000000
namespace LW
open PySem DL
theorem mulOk_r {i j : Int} (h : small64 j = true) : mulOk i j = true := by unfold mulOk; rw [h]; simp
theorem log_400 {i : Nat} (h : i < 2 ^ 200) : i.log2 < 201 := by
  by_cases z : i = 0
  · rw [z]; decide
  · have := (Nat.log2_lt z).mpr h
    omega
theorem mulOk_b {i j : Int} (h : i.natAbs < 2 ^ 200) (h2 : j.natAbs < 2 ^ 200) : mulOk i j = true := by
  unfold mulOk
  have a := log_400 h
  have b := log_400 h2
  have c : decide (i.natAbs.log2 + j.natAbs.log2 < 1000000) = true := decide_eq_true (by omega)
  rw [c]
  simp
def drawnI (c k : Int) : Int :=
  let m1 := (c * 6364136223846793005 + (k + 1) * 1442695040888963407) % 340282366920938463463374607431768211507
  let m2 := m1 * m1 % 340282366920938463463374607431768211297
  let m3 := (m2 % 18446744073709551557 + 1) * (m2 / 18446744073709551557 + 1) * m2
  m3 % 340282366920938463463374607431768211507
theorem drawn_ok (c k : Int) : f_law_drawn [.dat (.int c), .dat (.int k)] = .rt (.int (drawnI c k)) [.dat (.int c), .dat (.int k)] := by
  have a1 : mulOk c 6364136223846793005 = true := mulOk_r (by decide)
  have a2 : mulOk (k + 1) 1442695040888963407 = true := mulOk_r (by decide)
  have p1 := Int.emod_nonneg (c * 6364136223846793005 + (k + 1) * 1442695040888963407) (b := 340282366920938463463374607431768211507) (by decide)
  have p2 := Int.emod_lt_of_pos (c * 6364136223846793005 + (k + 1) * 1442695040888963407) (b := 340282366920938463463374607431768211507) (by decide)
  rw [f_law_drawn, v_fnD, drawnI]
  generalize e1 : (c * 6364136223846793005 + (k + 1) * 1442695040888963407) % 340282366920938463463374607431768211507 = m1 at p1 p2
  have a3 : mulOk m1 m1 = true := mulOk_b (by omega) (by omega)
  have q1 := Int.emod_nonneg (m1 * m1) (b := 340282366920938463463374607431768211297) (by decide)
  have q2 := Int.emod_lt_of_pos (m1 * m1) (b := 340282366920938463463374607431768211297) (by decide)
  generalize e2 : m1 * m1 % 340282366920938463463374607431768211297 = m2 at q1 q2
  have b1 : (m2 % 18446744073709551557 + 1).natAbs < 2 ^ 100 := by omega
  have b2 : (m2 / 18446744073709551557 + 1).natAbs < 2 ^ 100 := by omega
  have a4 : mulOk (m2 % 18446744073709551557 + 1) (m2 / 18446744073709551557 + 1) = true := mulOk_b (by omega) (by omega)
  have b3 : ((m2 % 18446744073709551557 + 1) * (m2 / 18446744073709551557 + 1)).natAbs < 2 ^ 200 := by
    rw [Int.natAbs_mul]
    have := Nat.mul_lt_mul'' b1 b2
    omega
  have a5 : mulOk ((m2 % 18446744073709551557 + 1) * (m2 / 18446744073709551557 + 1)) m2 = true := mulOk_b b3 (by omega)
  have l1 : Nat.log2 18446744073709551557 < 9000 := by decide +kernel
  simp [b_law_drawn, v_sSeq, v_for_nil, v_for_cons, v_sFor, v_sAsg, v_gNm, v_gTu, v_gNo, v_gCo, v_sRet, v_sExp, v_sIf, v_sNil, v_sRaise, v_sBrk, v_fnD, v_eC, v_eVar, v_wVar, v_eOp, v_eUn, v_asB, v_bAnd, v_bOr, v_bNot, v_eIf, v_eAnd, v_eOr, v_eNot, v_bYes, v_aNil, v_aCons, v_eTup, v_eLst, v_oLst, v_eCall, v_eFrz, v_sOwn, v_iLst, v_iTpl, v_xNil, v_xDat, v_runX, v_eFn, v_oLc, slotsX, callR, endF, backA, backX, wipeE, back1, a1, a2, e1, a3, e2, a4, a5, l1]
abbrev dc (x : Int × Int) : Own := .ol [.int x.1, .int x.2]
theorem pow18 : powD (.int 10) (.int 18) = some (.int 1000000000000000000) := by rfl
theorem roll_ok (x : Int × Int) (m : Int) (hm : 0 < m) (hm2 : m < 1000) : ∃ (x' : Int × Int) (v : Int), f_law_roll [.lent (dc x), .dat (.int m)] = .rt (.int v) [.lent (dc x'), .dat (.int m)] ∧ 0 ≤ v ∧ v < m := by
  obtain ⟨c, n⟩ := x
  have hl : m.natAbs.log2 < 9000 := by
    have := log_400 (i := m.natAbs) (by omega)
    omega
  by_cases h : 1000000000000000000 ≤ c
  · refine ⟨(c / m, n), c % m, ?_, Int.emod_nonneg _ (by omega), Int.emod_lt_of_pos _ hm⟩
    rw [f_law_roll, v_fnD]
    simp [b_law_roll, v_sSeq, v_for_nil, v_for_cons, v_sFor, v_sAsg, v_gNm, v_gTu, v_gNo, v_gCo, v_sRet, v_sExp, v_sIf, v_sNil, v_sRaise, v_sBrk, v_fnD, v_eC, v_eVar, v_wVar, v_eOp, v_eUn, v_asB, v_bAnd, v_bOr, v_bNot, v_eIf, v_eAnd, v_eOr, v_eNot, v_bYes, v_aNil, v_aCons, v_eTup, v_eLst, v_oLst, v_eCall, v_eFrz, v_sOwn, v_iLst, v_iTpl, v_xNil, v_xDat, v_runX, v_eFn, v_oLc, slotsX, callR, endF, backA, backX, wipeE, back1, eIxV, sSetI, modS, setO, isOl, Slot.ow, Slot.re, ixV, L2.atI, L2.ixN, pow18, h, hm, hl]
  · refine ⟨(c, n + 1), drawnI c (n + 1) / 8 % m, ?_, Int.emod_nonneg _ (by omega), Int.emod_lt_of_pos _ hm⟩
    have l8 : Nat.log2 8 < 9000 := by decide
    rw [f_law_roll, v_fnD]
    simp [b_law_roll, v_sSeq, v_for_nil, v_for_cons, v_sFor, v_sAsg, v_gNm, v_gTu, v_gNo, v_gCo, v_sRet, v_sExp, v_sIf, v_sNil, v_sRaise, v_sBrk, v_fnD, v_eC, v_eVar, v_wVar, v_eOp, v_eUn, v_asB, v_bAnd, v_bOr, v_bNot, v_eIf, v_eAnd, v_eOr, v_eNot, v_bYes, v_aNil, v_aCons, v_eTup, v_eLst, v_oLst, v_eCall, v_eFrz, v_sOwn, v_iLst, v_iTpl, v_xNil, v_xDat, v_runX, v_eFn, v_oLc, slotsX, callR, endF, backA, backX, wipeE, back1, eIxV, sSetI, modS, setO, isOl, Slot.ow, Slot.re, ixV, L2.atI, L2.ixN, pow18, h, hm, hl, drawn_ok, l8]
theorem canLay_ints : ∀ ns : List Int, PyData.canLayAll0 (ns.map PyData.int) = true
  | [] => by simp [PyData.canLayAll0]
  | n :: r => by rw [List.map_cons, PyData.canLayAll0, canLay_ints r]; simp [PyData.canLay0]
theorem depth_ints : ∀ ns : List Int, PyData.depthAll (ns.map PyData.int) = 0
  | [] => by simp [PyData.depthAll]
  | n :: r => by rw [List.map_cons, PyData.depthAll, depth_ints r]; simp [PyData.depth]
@[simp] theorem eqD_scr (ns : List Int) : eqD (.scr ns) (.lst []) = some (.bl ns.isEmpty) := by
  have h1 : (D.scr ns).sh = true := by
    unfold D.sh SeqAt.shaped
    rw [D.toP]
    simp [PyData.canLay0, canLay_ints, PyData.depth, depth_ints]
  have h2 : (D.lst []).sh = true := by kernel_rfl
  unfold eqD
  rw [h1, h2]
  show some (D.bl (D.eqv _ _)) = _
  unfold D.eqv
  rw [D.toP, D.toP, toPs]
  cases ns <;> simp [PyData.eqv, PyData.eqvAll]
@[simp] theorem ixD_scr (ns : List Int) (i : Int) : ixD (.scr ns) (.int i) = (L2.atI ns i).map D.int := rfl
@[simp] theorem lenD_scr (ns : List Int) : lenD (.scr ns) = some (.int ns.length) := rfl
theorem mul_7919 (k : Int) : mulOk k 7919 = true := mulOk_r (by decide)
theorem mul_104729 (k : Int) : mulOk k 104729 = true := mulOk_r (by decide)
theorem cell_at (ns : List Int) (k : Nat) (hk : k % ns.length < ns.length) : L2.atI ns ((k : Int) % (ns.length : Int)) = some (ns.getD (k % ns.length) 0) := by
  have e : (k : Int) % (ns.length : Int) = ((k % ns.length : Nat) : Int) := by omega
  rw [e]
  generalize k % ns.length = j at hk
  unfold L2.atI L2.ixN
  rw [if_pos (by omega), if_pos (by omega)]
  simp [List.getElem?_eq_getElem hk]
theorem log_63 (n : Nat) (h : n ≤ 63) : n.log2 < 9000 := by
  have := log_400 (i := n) (by omega)
  omega
theorem cell_nil (k : Int) : f_law_cell [.dat (.scr []), .dat (.int k)] = .rt (.int (k * 7919)) [.dat (.scr []), .dat (.int k)] := by
  rw [f_law_cell, v_fnD]
  simp [b_law_cell, v_sSeq, v_for_nil, v_for_cons, v_sFor, v_sAsg, v_gNm, v_gTu, v_gNo, v_gCo, v_sRet, v_sExp, v_sIf, v_sNil, v_sRaise, v_sBrk, v_fnD, v_eC, v_eVar, v_wVar, v_eOp, v_eUn, v_asB, v_bAnd, v_bOr, v_bNot, v_eIf, v_eAnd, v_eOr, v_eNot, v_bYes, v_aNil, v_aCons, v_eTup, v_eLst, v_oLst, v_eCall, v_eFrz, v_sOwn, v_iLst, v_iTpl, v_xNil, v_xDat, v_runX, v_eFn, v_oLc, slotsX, callR, endF, backA, backX, wipeE, back1, mul_7919]
theorem cell_cons (ns : List Int) (k n w : Int) (hn : (ns.length : Int) = n) (hne : ns.isEmpty = false) (hp : 0 < n) (hl : n.natAbs.log2 < 9000) (hx : L2.atI ns (k % n) = some w) : f_law_cell [.dat (.scr ns), .dat (.int k)] = .rt (.int (w + k / n * 104729)) [.dat (.scr ns), .dat (.int k)] := by
  rw [f_law_cell, v_fnD]
  simp [b_law_cell, v_sSeq, v_for_nil, v_for_cons, v_sFor, v_sAsg, v_gNm, v_gTu, v_gNo, v_gCo, v_sRet, v_sExp, v_sIf, v_sNil, v_sRaise, v_sBrk, v_fnD, v_eC, v_eVar, v_wVar, v_eOp, v_eUn, v_asB, v_bAnd, v_bOr, v_bNot, v_eIf, v_eAnd, v_eOr, v_eNot, v_bYes, v_aNil, v_aCons, v_eTup, v_eLst, v_oLst, v_eCall, v_eFrz, v_sOwn, v_iLst, v_iTpl, v_xNil, v_xDat, v_runX, v_eFn, v_oLc, slotsX, callR, endF, backA, backX, wipeE, back1, hne, hn, hp, hl, hx, mul_104729]
theorem cell_pure (ns : List Int) (h : ns.length ≤ 63) (k : Nat) : f_law_cell [.dat (.scr ns), .dat (.int k)] = .rt (.int (czS ns k)) [.dat (.scr ns), .dat (.int k)] := by
  by_cases h0 : ns = []
  · subst h0
    exact cell_nil k
  · have hne : ns.isEmpty = false := by cases ns with
      | nil => exact absurd rfl h0
      | cons n r => rfl
    have hp0 : 0 < ns.length := List.length_pos_iff.mpr h0
    have e : czS ns k = ns.getD (k % ns.length) 0 + (k : Int) / (ns.length : Int) * 104729 := by
      unfold czS
      rw [if_neg h0, Int.natCast_ediv]
    rw [e]
    exact cell_cons ns k ns.length _ rfl hne (by omega) (log_63 _ h) (cell_at ns k (Nat.mod_lt _ hp0))
theorem rounds_mx (hi : Int) (h1 : 1 ≤ hi) (h2 : hi ≤ 100) (ns : List Int) (h : ns.length ≤ 63) : mx_rounds (envR ns hi 1) = .ok (rangeD 0 (cntS ns hi)) (envR ns hi 1) := by
  simp [mx_rounds, iRg1, v_sSeq, v_for_nil, v_for_cons, v_sFor, v_sAsg, v_gNm, v_gTu, v_gNo, v_gCo, v_sRet, v_sExp, v_sIf, v_sNil, v_sRaise, v_sBrk, v_fnD, v_eC, v_eVar, v_wVar, v_eOp, v_eUn, v_asB, v_bAnd, v_bOr, v_bNot, v_eIf, v_eAnd, v_eOr, v_eNot, v_bYes, v_aNil, v_aCons, v_eTup, v_eLst, v_oLst, v_eCall, v_eFrz, v_sOwn, v_iLst, v_iTpl, v_xNil, v_xDat, v_runX, v_eFn, v_oLc, slotsX, callR, endF, backA, backX, wipeE, back1, envR, parR, maxD, minD, inR, cntS]
  split <;> split <;> simp <;> omega
theorem rounds_cnt (hi : Int) (h2 : hi ≤ 100) (ns : List Int) (h : ns.length ≤ 63) : cntS ns hi ≤ 1000 := by
  unfold cntS
  split <;> split <;> omega
theorem rounds_mx4 (ns : List Int) (h : ns.length ≤ 63) : mx_rounds (envR ns 4 1) = .ok (rangeD 0 (cntS ns 4)) (envR ns 4 1) := rounds_mx 4 (by decide) (by decide) ns h
theorem rounds_cnt4 (ns : List Int) (h : ns.length ≤ 63) : cntS ns 4 ≤ 1000 := rounds_cnt 4 (by decide) ns h
theorem mem_bl_lst {α : Type} (b : Bool) (f : α → Bool) (xs : List α) : inD (.bl b) (.lst (xs.map fun x => .bl (f x))) = some (.bl (xs.any fun x => f x == b)) := by
  have h1 : (D.lst (xs.map fun x => .bl (f x))).sh = true := by
    unfold D.sh SeqAt.shaped
    rw [D.toP, toPs_map, List.map_map]
    have a : ∀ xs : List α, PyData.canLayAll0 (xs.map (D.toP ∘ fun x => .bl (f x))) = true := fun xs => by
      induction xs with
      | nil => simp [PyData.canLayAll0]
      | cons x r ih => rw [List.map_cons, PyData.canLayAll0, ih]; simp [PyData.canLay0, D.toP]
    have b : ∀ xs : List α, PyData.depthAll (xs.map (D.toP ∘ fun x => .bl (f x))) = 0 := fun xs => by
      induction xs with
      | nil => simp [PyData.depthAll]
      | cons x r ih => rw [List.map_cons, PyData.depthAll, ih]; simp [PyData.depth, D.toP]
    simp [PyData.canLay0, a, b, PyData.depth]
  show (memD _ _).map _ = _
  rw [show memD (.bl b) (.lst (xs.map fun x => .bl (f x))) = if ((D.bl b).sh && (D.lst (xs.map fun x => .bl (f x))).sh) = true then some ((xs.map fun x => D.bl (f x)).any fun z => z.eqv (.bl b)) else none from rfl, sh_bl, h1]
  simp only [Bool.and_self, if_true, Option.map_some]
  congr 2
  rw [List.any_map]
  congr 1
theorem any_not : ∀ ps : List Pat, (ps.any fun x => !x.null) = !ps.all Pat.null
  | [] => rfl
  | p :: r => by rw [List.any_cons, List.all_cons, any_not r, Bool.not_and]
theorem lnull_ok : ∀ (k : Nat) (p : Pat), p.size ≤ k → k ≤ 1000 → f_law_null k [.dat (enc p)] = .rt (.bl p.null) [.dat (enc p)]
  | 0, p, h, _ => by
    have := size_pos p
    omega
  | k + 1, p, h, hk => by
    have hl := len_items p
    have hl2 : p.items.length ≤ 1000000 := by omega
    have hc : ∀ q ∈ p.items, f_law_null k [.dat (enc q)] = .rt (.bl q.null) [.dat (enc q)] := fun q hq => lnull_ok k q (by have := size_lt hq; omega) (by omega)
    have hm : compD [1] (gNm 1) bYes (eFn 0 1 (f_law_null k) (xDat (eVar 1) xNil)) (p.items.map enc) [.dat (enc p), .emp] = .ok (p.items.map fun q => .bl q.null) [.dat (enc p), .emp] :=
      comp_enc fun q hq => ⟨[.dat (enc p), .dat (enc q)], [.dat (enc p), .dat (enc q)], rfl, by simp [v_sSeq, v_for_nil, v_for_cons, v_sFor, v_sAsg, v_gNm, v_gTu, v_gNo, v_gCo, v_sRet, v_sExp, v_sIf, v_sNil, v_sRaise, v_sBrk, v_fnD, v_eC, v_eVar, v_wVar, v_eOp, v_eUn, v_asB, v_bAnd, v_bOr, v_bNot, v_eIf, v_eAnd, v_eOr, v_eNot, v_bYes, v_aNil, v_aCons, v_eTup, v_eLst, v_oLst, v_eCall, v_eFrz, v_sOwn, v_iLst, v_iTpl, v_xNil, v_xDat, v_runX, v_eFn, v_oLc, slotsX, callR, endF, backA, backX, wipeE, back1, hc q hq], rfl⟩
    rw [f_law_null, v_fnD]
    cases p with
    | seq ps =>
      have hl2 : ps.length ≤ 1000000 := hl2
      simp only [Pat.items] at hm
      simp [b_law_null, v_sSeq, v_for_nil, v_for_cons, v_sFor, v_sAsg, v_gNm, v_gTu, v_gNo, v_gCo, v_sRet, v_sExp, v_sIf, v_sNil, v_sRaise, v_sBrk, v_fnD, v_eC, v_eVar, v_wVar, v_eOp, v_eUn, v_asB, v_bAnd, v_bOr, v_bNot, v_eIf, v_eAnd, v_eOr, v_eNot, v_bYes, v_aNil, v_aCons, v_eTup, v_eLst, v_oLst, v_eCall, v_eFrz, v_sOwn, v_iLst, v_iTpl, v_xNil, v_xDat, v_runX, v_eFn, v_oLc, slotsX, callR, endF, backA, backX, wipeE, back1, hl2, hm, null_seq, mem_bl_lst, any_not]
    | alt ps =>
      have hl2 : ps.length ≤ 1000000 := hl2
      simp only [Pat.items] at hm
      simp [b_law_null, v_sSeq, v_for_nil, v_for_cons, v_sFor, v_sAsg, v_gNm, v_gTu, v_gNo, v_gCo, v_sRet, v_sExp, v_sIf, v_sNil, v_sRaise, v_sBrk, v_fnD, v_eC, v_eVar, v_wVar, v_eOp, v_eUn, v_asB, v_bAnd, v_bOr, v_bNot, v_eIf, v_eAnd, v_eOr, v_eNot, v_bYes, v_aNil, v_aCons, v_eTup, v_eLst, v_oLst, v_eCall, v_eFrz, v_sOwn, v_iLst, v_iTpl, v_xNil, v_xDat, v_runX, v_eFn, v_oLc, slotsX, callR, endF, backA, backX, wipeE, back1, hl2, hm, null_alt, mem_bl_lst]
    | set s => simp [b_law_null, v_sSeq, v_for_nil, v_for_cons, v_sFor, v_sAsg, v_gNm, v_gTu, v_gNo, v_gCo, v_sRet, v_sExp, v_sIf, v_sNil, v_sRaise, v_sBrk, v_fnD, v_eC, v_eVar, v_wVar, v_eOp, v_eUn, v_asB, v_bAnd, v_bOr, v_bNot, v_eIf, v_eAnd, v_eOr, v_eNot, v_bYes, v_aNil, v_aCons, v_eTup, v_eLst, v_oLst, v_eCall, v_eFrz, v_sOwn, v_iLst, v_iTpl, v_xNil, v_xDat, v_runX, v_eFn, v_oLc, slotsX, callR, endF, backA, backX, wipeE, back1, null_set]
    | opt s => simp [b_law_null, v_sSeq, v_for_nil, v_for_cons, v_sFor, v_sAsg, v_gNm, v_gTu, v_gNo, v_gCo, v_sRet, v_sExp, v_sIf, v_sNil, v_sRaise, v_sBrk, v_fnD, v_eC, v_eVar, v_wVar, v_eOp, v_eUn, v_asB, v_bAnd, v_bOr, v_bNot, v_eIf, v_eAnd, v_eOr, v_eNot, v_bYes, v_aNil, v_aCons, v_eTup, v_eLst, v_oLst, v_eCall, v_eFrz, v_sOwn, v_iLst, v_iTpl, v_xNil, v_xDat, v_runX, v_eFn, v_oLc, slotsX, callR, endF, backA, backX, wipeE, back1, null_opt]
    | star s => simp [b_law_null, v_sSeq, v_for_nil, v_for_cons, v_sFor, v_sAsg, v_gNm, v_gTu, v_gNo, v_gCo, v_sRet, v_sExp, v_sIf, v_sNil, v_sRaise, v_sBrk, v_fnD, v_eC, v_eVar, v_wVar, v_eOp, v_eUn, v_asB, v_bAnd, v_bOr, v_bNot, v_eIf, v_eAnd, v_eOr, v_eNot, v_bYes, v_aNil, v_aCons, v_eTup, v_eLst, v_oLst, v_eCall, v_eFrz, v_sOwn, v_iLst, v_iTpl, v_xNil, v_xDat, v_runX, v_eFn, v_oLc, slotsX, callR, endF, backA, backX, wipeE, back1, null_star]
theorem lsize_ok : ∀ (k : Nat) (p : Pat), p.size ≤ k → k ≤ 1000 → f_law_size k [.dat (enc p)] = .rt (.int p.size) [.dat (enc p)]
  | 0, p, h, _ => by
    have := size_pos p
    omega
  | k + 1, p, h, hk => by
    have hl := len_items p
    have hl2 : p.items.length ≤ 1000000 := by omega
    have hc : ∀ q ∈ p.items, f_law_size k [.dat (enc q)] = .rt (.int q.size) [.dat (enc q)] := fun q hq => lsize_ok k q (by have := size_lt hq; omega) (by omega)
    have hm : compD [1] (gNm 1) bYes (eFn 0 1 (f_law_size k) (xDat (eVar 1) xNil)) (p.items.map enc) [.dat (enc p), .emp] = .ok (p.items.map fun q => .int q.size) [.dat (enc p), .emp] :=
      comp_enc fun q hq => ⟨[.dat (enc p), .dat (enc q)], [.dat (enc p), .dat (enc q)], rfl, by simp [v_sSeq, v_for_nil, v_for_cons, v_sFor, v_sAsg, v_gNm, v_gTu, v_gNo, v_gCo, v_sRet, v_sExp, v_sIf, v_sNil, v_sRaise, v_sBrk, v_fnD, v_eC, v_eVar, v_wVar, v_eOp, v_eUn, v_asB, v_bAnd, v_bOr, v_bNot, v_eIf, v_eAnd, v_eOr, v_eNot, v_bYes, v_aNil, v_aCons, v_eTup, v_eLst, v_oLst, v_eCall, v_eFrz, v_sOwn, v_iLst, v_iTpl, v_xNil, v_xDat, v_runX, v_eFn, v_oLc, slotsX, callR, endF, backA, backX, wipeE, back1, hc q hq], rfl⟩
    have hz : (1 : Int) + (p.items.map fun q => (q.size : Int)).sum = p.size := by rw [sizeAll_sum, size_items p]; omega
    rw [f_law_size, v_fnD]
    cases p with
    | set s => simp [b_law_size, v_sSeq, v_for_nil, v_for_cons, v_sFor, v_sAsg, v_gNm, v_gTu, v_gNo, v_gCo, v_sRet, v_sExp, v_sIf, v_sNil, v_sRaise, v_sBrk, v_fnD, v_eC, v_eVar, v_wVar, v_eOp, v_eUn, v_asB, v_bAnd, v_bOr, v_bNot, v_eIf, v_eAnd, v_eOr, v_eNot, v_bYes, v_aNil, v_aCons, v_eTup, v_eLst, v_oLst, v_eCall, v_eFrz, v_sOwn, v_iLst, v_iTpl, v_xNil, v_xDat, v_runX, v_eFn, v_oLc, slotsX, callR, endF, backA, backX, wipeE, back1, Pat.size]
    | seq ps => simp only [Pat.items] at hm hl2 hz; simp [b_law_size, v_sSeq, v_for_nil, v_for_cons, v_sFor, v_sAsg, v_gNm, v_gTu, v_gNo, v_gCo, v_sRet, v_sExp, v_sIf, v_sNil, v_sRaise, v_sBrk, v_fnD, v_eC, v_eVar, v_wVar, v_eOp, v_eUn, v_asB, v_bAnd, v_bOr, v_bNot, v_eIf, v_eAnd, v_eOr, v_eNot, v_bYes, v_aNil, v_aCons, v_eTup, v_eLst, v_oLst, v_eCall, v_eFrz, v_sOwn, v_iLst, v_iTpl, v_xNil, v_xDat, v_runX, v_eFn, v_oLc, slotsX, callR, endF, backA, backX, wipeE, back1, hl2, hm, hz]
    | alt ps => simp only [Pat.items] at hm hl2 hz; simp [b_law_size, v_sSeq, v_for_nil, v_for_cons, v_sFor, v_sAsg, v_gNm, v_gTu, v_gNo, v_gCo, v_sRet, v_sExp, v_sIf, v_sNil, v_sRaise, v_sBrk, v_fnD, v_eC, v_eVar, v_wVar, v_eOp, v_eUn, v_asB, v_bAnd, v_bOr, v_bNot, v_eIf, v_eAnd, v_eOr, v_eNot, v_bYes, v_aNil, v_aCons, v_eTup, v_eLst, v_oLst, v_eCall, v_eFrz, v_sOwn, v_iLst, v_iTpl, v_xNil, v_xDat, v_runX, v_eFn, v_oLc, slotsX, callR, endF, backA, backX, wipeE, back1, hl2, hm, hz]
    | opt q =>
      simp [Pat.items] at hm hz
      simp [b_law_size, v_sSeq, v_for_nil, v_for_cons, v_sFor, v_sAsg, v_gNm, v_gTu, v_gNo, v_gCo, v_sRet, v_sExp, v_sIf, v_sNil, v_sRaise, v_sBrk, v_fnD, v_eC, v_eVar, v_wVar, v_eOp, v_eUn, v_asB, v_bAnd, v_bOr, v_bNot, v_eIf, v_eAnd, v_eOr, v_eNot, v_bYes, v_aNil, v_aCons, v_eTup, v_eLst, v_oLst, v_eCall, v_eFrz, v_sOwn, v_iLst, v_iTpl, v_xNil, v_xDat, v_runX, v_eFn, v_oLc, slotsX, callR, endF, backA, backX, wipeE, back1, hm, sumD, intsD, hz]
    | star q =>
      simp [Pat.items] at hm hz
      simp [b_law_size, v_sSeq, v_for_nil, v_for_cons, v_sFor, v_sAsg, v_gNm, v_gTu, v_gNo, v_gCo, v_sRet, v_sExp, v_sIf, v_sNil, v_sRaise, v_sBrk, v_fnD, v_eC, v_eVar, v_wVar, v_eOp, v_eUn, v_asB, v_bAnd, v_bOr, v_bNot, v_eIf, v_eAnd, v_eOr, v_eNot, v_bYes, v_aNil, v_aCons, v_eTup, v_eLst, v_oLst, v_eCall, v_eFrz, v_sOwn, v_iLst, v_iTpl, v_xNil, v_xDat, v_runX, v_eFn, v_oLc, slotsX, callR, endF, backA, backX, wipeE, back1, hm, sumD, intsD, hz]
theorem lets_loop {r : Fn} {d0 : D} : ∀ (ps : List Pat) (acc : List D) (s2 : Slot), (∀ q ∈ ps, r [.dat (enc q)] = .rt (.lst (q.sets.map .str)) [.dat (enc q)]) → acc.length + (setsAll ps).length ≤ 1000000 →
    ∃ s2', forD (gNm 2) (sAsg (eOp addD (eVar 1) (eFn 0 1 r (xDat (eVar 2) xNil))) (gNm 1)) (ps.map enc) [.dat d0, .dat (.lst acc), s2] = .nx [.dat d0, .dat (.lst (acc ++ (setsAll ps).map .str)), s2']
  | [], acc, s2, _, _ => ⟨s2, by simp [v_sSeq, v_for_nil, v_for_cons, v_sFor, v_sAsg, v_gNm, v_gTu, v_gNo, v_gCo, v_sRet, v_sExp, v_sIf, v_sNil, v_sRaise, v_sBrk, v_fnD, v_eC, v_eVar, v_wVar, v_eOp, v_eUn, v_asB, v_bAnd, v_bOr, v_bNot, v_eIf, v_eAnd, v_eOr, v_eNot, v_bYes, v_aNil, v_aCons, v_eTup, v_eLst, v_oLst, v_eCall, v_eFrz, v_sOwn, v_iLst, v_iTpl, v_xNil, v_xDat, v_runX, v_eFn, v_oLc, slotsX, callR, endF, backA, backX, wipeE, back1, setsAll]⟩
  | q :: ps, acc, s2, h, hl => by
    have hq := h q List.mem_cons_self
    rw [setsAll, List.length_append] at hl
    have hs : acc.length + q.sets.length ≤ sizeLine := by have := sizeLine_ge; omega
    obtain ⟨s2', ih⟩ := lets_loop (d0 := d0) ps (acc ++ q.sets.map .str) (.dat (enc q)) (fun q hq => h q (List.mem_cons_of_mem _ hq)) (by simp; omega)
    refine ⟨s2', ?_⟩
    rw [List.map_cons, setsAll]
    simp [v_sSeq, v_for_nil, v_for_cons, v_sFor, v_sAsg, v_gNm, v_gTu, v_gNo, v_gCo, v_sRet, v_sExp, v_sIf, v_sNil, v_sRaise, v_sBrk, v_fnD, v_eC, v_eVar, v_wVar, v_eOp, v_eUn, v_asB, v_bAnd, v_bOr, v_bNot, v_eIf, v_eAnd, v_eOr, v_eNot, v_bYes, v_aNil, v_aCons, v_eTup, v_eLst, v_oLst, v_eCall, v_eFrz, v_sOwn, v_iLst, v_iTpl, v_xNil, v_xDat, v_runX, v_eFn, v_oLc, slotsX, callR, endF, backA, backX, wipeE, back1, hq, hs, ih]
theorem llets_ok : ∀ (k : Nat) (p : Pat), p.size ≤ k → k ≤ 1000 → f_law_letters k [.dat (enc p)] = .rt (.lst (p.sets.map .str)) [.dat (enc p)]
  | 0, p, h, _ => by
    have := size_pos p
    omega
  | k + 1, p, h, hk => by
    have hc : ∀ q ∈ p.items, f_law_letters k [.dat (enc q)] = .rt (.lst (q.sets.map .str)) [.dat (enc q)] := fun q hq => llets_ok k q (by have := size_lt hq; omega) (by omega)
    have hs := setsAll_le p.items
    have hz := size_items p
    obtain ⟨s2', hf⟩ := lets_loop (d0 := enc p) p.items [] .emp hc (by simp; omega)
    rw [f_law_letters, v_fnD, sets_items p]
    cases p <;> simp [b_law_letters, v_sSeq, v_for_nil, v_for_cons, v_sFor, v_sAsg, v_gNm, v_gTu, v_gNo, v_gCo, v_sRet, v_sExp, v_sIf, v_sNil, v_sRaise, v_sBrk, v_fnD, v_eC, v_eVar, v_wVar, v_eOp, v_eUn, v_asB, v_bAnd, v_bOr, v_bNot, v_eIf, v_eAnd, v_eOr, v_eNot, v_bYes, v_aNil, v_aCons, v_eTup, v_eLst, v_oLst, v_eCall, v_eFrz, v_sOwn, v_iLst, v_iTpl, v_xNil, v_xDat, v_runX, v_eFn, v_oLc, slotsX, callR, endF, backA, backX, wipeE, back1] <;> simp [Pat.items, v_sSeq, v_for_nil, v_for_cons, v_sFor, v_sAsg, v_gNm, v_gTu, v_gNo, v_gCo, v_sRet, v_sExp, v_sIf, v_sNil, v_sRaise, v_sBrk, v_fnD, v_eC, v_eVar, v_wVar, v_eOp, v_eUn, v_asB, v_bAnd, v_bOr, v_bNot, v_eIf, v_eAnd, v_eOr, v_eNot, v_bYes, v_aNil, v_aCons, v_eTup, v_eLst, v_oLst, v_eCall, v_eFrz, v_sOwn, v_iLst, v_iTpl, v_xNil, v_xDat, v_runX, v_eFn, v_oLc, slotsX, callR, endF, backA, backX, wipeE, back1] at hf ⊢ <;> simp [hf, v_sSeq, v_for_nil, v_for_cons, v_sFor, v_sAsg, v_gNm, v_gTu, v_gNo, v_gCo, v_sRet, v_sExp, v_sIf, v_sNil, v_sRaise, v_sBrk, v_fnD, v_eC, v_eVar, v_wVar, v_eOp, v_eUn, v_asB, v_bAnd, v_bOr, v_bNot, v_eIf, v_eAnd, v_eOr, v_eNot, v_bYes, v_aNil, v_aCons, v_eTup, v_eLst, v_oLst, v_eCall, v_eFrz, v_sOwn, v_iLst, v_iTpl, v_xNil, v_xDat, v_runX, v_eFn, v_oLc, slotsX, callR, endF, backA, backX, wipeE, back1]
end LW
set_option Elab.async false
set_option linter.all false
set_option maxRecDepth 100000
set_option maxHeartbeats 1000000
namespace LW
open PySem DL
structure Lg where
  la : Nat
  lb : Nat
  ma : Nat
  mb : Nat
  fa : Nat
  fb : Nat
def lgSet : Lg := ⟨1, 0, 1, 1, 0, 1⟩
def lgOpt (q : Lg) : Lg := ⟨q.la, q.lb + 1, q.ma + q.la, q.mb + q.lb + 1, q.fa, q.fb⟩
def lgStar (q : Lg) : Lg := ⟨q.la, 1, q.ma + q.mb * q.la + q.la, q.mb + 1, q.fa + q.fb * q.la, q.fb⟩
def lgSeq0 : Lg := ⟨0, 1, 0, 1, 0, 0⟩
def lgSeq (p r : Lg) : Lg := ⟨p.la + p.lb * r.la, p.lb * r.lb, r.ma + p.ma + p.mb * r.la + (p.la + p.lb * r.la), r.mb + p.mb * r.lb + p.lb * r.lb, max r.fa (p.fa + p.fb * r.la), max r.fb (p.fb * r.lb)⟩
def lgAlt0 : Lg := ⟨0, 0, 0, 0, 0, 0⟩
def lgAlt (p r : Lg) : Lg := ⟨p.la + r.la, p.lb + r.lb, p.ma + r.ma + (p.la + r.la), p.mb + r.mb + (p.lb + r.lb), max p.fa r.fa, max p.fb r.fb⟩
mutual
def Pat.lg : Pat → Lg
  | .set _ => lgSet
  | .seq ps => lgSeqs ps
  | .alt ps => lgAlts ps
  | .opt p => lgOpt p.lg
  | .star p => lgStar p.lg
def lgSeqs : List Pat → Lg
  | [] => lgSeq0
  | p :: r => lgSeq p.lg (lgSeqs r)
def lgAlts : List Pat → Lg
  | [] => lgAlt0
  | p :: r => lgAlt p.lg (lgAlts r)
end
structure Lg.le (p q : Lg) : Prop where
  la : p.la ≤ q.la
  lb : p.lb ≤ q.lb
  ma : p.ma ≤ q.ma
  mb : p.mb ≤ q.mb
  fa : p.fa ≤ q.fa
  fb : p.fb ≤ q.fb
theorem Lg.le.refl (p : Lg) : p.le p := ⟨Nat.le_refl _, Nat.le_refl _, Nat.le_refl _, Nat.le_refl _, Nat.le_refl _, Nat.le_refl _⟩
theorem Lg.le.trans {p q r : Lg} (a : p.le q) (b : q.le r) : p.le r := ⟨Nat.le_trans a.la b.la, Nat.le_trans a.lb b.lb, Nat.le_trans a.ma b.ma, Nat.le_trans a.mb b.mb, Nat.le_trans a.fa b.fa, Nat.le_trans a.fb b.fb⟩
def Lg.max (p q : Lg) : Lg := ⟨Nat.max p.la q.la, Nat.max p.lb q.lb, Nat.max p.ma q.ma, Nat.max p.mb q.mb, Nat.max p.fa q.fa, Nat.max p.fb q.fb⟩
theorem Lg.le_l (p q : Lg) : p.le (p.max q) := ⟨Nat.le_max_left .., Nat.le_max_left .., Nat.le_max_left .., Nat.le_max_left .., Nat.le_max_left .., Nat.le_max_left ..⟩
theorem Lg.le_r (p q : Lg) : q.le (p.max q) := ⟨Nat.le_max_right .., Nat.le_max_right .., Nat.le_max_right .., Nat.le_max_right .., Nat.le_max_right .., Nat.le_max_right ..⟩
theorem lgOpt_mono {p q : Lg} (h : p.le q) : (lgOpt p).le (lgOpt q) := by
  obtain ⟨h1, h2, h3, h4, h5, h6⟩ := h
  constructor <;> simp only [lgOpt] <;> omega
theorem lgStar_mono {p q : Lg} (h : p.le q) : (lgStar p).le (lgStar q) := by
  obtain ⟨h1, h2, h3, h4, h5, h6⟩ := h
  have := Nat.mul_le_mul h4 h1
  have := Nat.mul_le_mul h6 h1
  constructor <;> simp only [lgStar] <;> omega
theorem lgSeq_mono {p q p' q' : Lg} (h : p.le q) (h' : p'.le q') : (lgSeq p p').le (lgSeq q q') := by
  obtain ⟨h1, h2, h3, h4, h5, h6⟩ := h
  obtain ⟨k1, k2, k3, k4, k5, k6⟩ := h'
  have a := Nat.mul_le_mul h2 k1
  have b := Nat.mul_le_mul h2 k2
  have c := Nat.mul_le_mul h4 k1
  have d := Nat.mul_le_mul h4 k2
  have e := Nat.mul_le_mul h6 k1
  have f := Nat.mul_le_mul h6 k2
  constructor <;> simp only [lgSeq] <;> omega
theorem lgAlt_mono {p q p' q' : Lg} (h : p.le q) (h' : p'.le q') : (lgAlt p p').le (lgAlt q q') := by
  obtain ⟨h1, h2, h3, h4, h5, h6⟩ := h
  obtain ⟨k1, k2, k3, k4, k5, k6⟩ := h'
  constructor <;> simp only [lgAlt] <;> omega
def repS (q : Lg) : Nat → Lg
  | 0 => lgSeq0
  | n + 1 => lgSeq q (repS q n)
def repA (q : Lg) : Nat → Lg
  | 0 => lgAlt0
  | n + 1 => lgAlt q (repA q n)
theorem seqs_rep {q : Lg} : ∀ ps : List Pat, (∀ p ∈ ps, p.lg.le q) → (lgSeqs ps).le (repS q ps.length)
  | [], _ => Lg.le.refl _
  | p :: r, h => lgSeq_mono (h p List.mem_cons_self) (seqs_rep r fun x hx => h x (List.mem_cons_of_mem _ hx))
theorem alts_rep {q : Lg} : ∀ ps : List Pat, (∀ p ∈ ps, p.lg.le q) → (lgAlts ps).le (repA q ps.length)
  | [], _ => Lg.le.refl _
  | p :: r, h => lgAlt_mono (h p List.mem_cons_self) (alts_rep r fun x hx => h x (List.mem_cons_of_mem _ hx))
def lgT : Nat → Nat → Lg
  | 0, _ => lgSet
  | d + 1, r => if r ≤ 1 then lgSet else lgSet.max (((repS (lgT d (r / 2)) 2).max (repA (lgT d (r / 2)) 2)).max (((repS (lgT d (r / 3)) 3).max (repA (lgT d (r / 3)) 3)).max ((lgT d r).max ((lgOpt (lgT d r)).max (lgStar (lgT d r))))))
theorem lgT_set : ∀ d r : Nat, lgSet.le (lgT d r)
  | 0, _ => Lg.le.refl _
  | d + 1, r => by
    unfold lgT
    split
    · exact Lg.le.refl _
    · exact Lg.le_l _ _
section
variable {d r : Nat}
theorem lgT_eq (h : ¬ r ≤ 1) : lgT (d + 1) r = lgSet.max (((repS (lgT d (r / 2)) 2).max (repA (lgT d (r / 2)) 2)).max (((repS (lgT d (r / 3)) 3).max (repA (lgT d (r / 3)) 3)).max ((lgT d r).max ((lgOpt (lgT d r)).max (lgStar (lgT d r)))))) := by rw [lgT, if_neg h]
theorem lgT_s2 (h : ¬ r ≤ 1) : (repS (lgT d (r / 2)) 2).le (lgT (d + 1) r) := by rw [lgT_eq h]; exact (Lg.le_l _ _).trans ((Lg.le_l _ _).trans (Lg.le_r _ _))
theorem lgT_a2 (h : ¬ r ≤ 1) : (repA (lgT d (r / 2)) 2).le (lgT (d + 1) r) := by rw [lgT_eq h]; exact (Lg.le_r _ _).trans ((Lg.le_l _ _).trans (Lg.le_r _ _))
theorem lgT_s3 (h : ¬ r ≤ 1) : (repS (lgT d (r / 3)) 3).le (lgT (d + 1) r) := by rw [lgT_eq h]; exact (Lg.le_l _ _).trans ((Lg.le_l _ _).trans ((Lg.le_r _ _).trans (Lg.le_r _ _)))
theorem lgT_a3 (h : ¬ r ≤ 1) : (repA (lgT d (r / 3)) 3).le (lgT (d + 1) r) := by rw [lgT_eq h]; exact (Lg.le_r _ _).trans ((Lg.le_l _ _).trans ((Lg.le_r _ _).trans (Lg.le_r _ _)))
theorem lgT_i (h : ¬ r ≤ 1) : (lgT d r).le (lgT (d + 1) r) := by rw [lgT_eq h]; exact (Lg.le_l _ _).trans ((Lg.le_r _ _).trans ((Lg.le_r _ _).trans (Lg.le_r _ _)))
theorem lgT_o (h : ¬ r ≤ 1) : (lgOpt (lgT d r)).le (lgT (d + 1) r) := by rw [lgT_eq h]; exact (Lg.le_l _ _).trans ((Lg.le_r _ _).trans ((Lg.le_r _ _).trans ((Lg.le_r _ _).trans (Lg.le_r _ _))))
theorem lgT_t (h : ¬ r ≤ 1) : (lgStar (lgT d r)).le (lgT (d + 1) r) := by rw [lgT_eq h]; exact (Lg.le_r _ _).trans ((Lg.le_r _ _).trans ((Lg.le_r _ _).trans ((Lg.le_r _ _).trans (Lg.le_r _ _))))
end
theorem lgT_36 : (lgT 3 6).ma + (lgT 3 6).mb ≤ 100000 := by decide +kernel
theorem lgT_36s : (lgT 3 6).la ≤ 21 ∧ (lgT 3 6).lb ≤ 8 ∧ (lgT 3 6).fa ≤ 16 ∧ (lgT 3 6).fb ≤ 4 := by decide +kernel
theorem lgT_36f : (lgT 3 6).fa + (lgT 3 6).fb ≤ 24 := by decide +kernel
end LW
set_option Elab.async false
set_option linter.all false
set_option maxRecDepth 100000
set_option maxHeartbeats 1000000
namespace LW
open PySem DL
inductive DrP : Pat → Nat → Nat → Prop
  | set (s : Str) (d r : Nat) : DrP (.set s) d r
  | seq (ps : List Pat) (d r m : Nat) : (m = 2 ∨ (m = 3 ∧ 3 < r)) → ps.length = m → ¬ r ≤ 1 → (∀ p ∈ ps, DrP p d (r / m)) → DrP (.seq ps) (d + 1) r
  | alt (ps : List Pat) (d r m : Nat) : (m = 2 ∨ (m = 3 ∧ 3 < r)) → ps.length = m → ¬ r ≤ 1 → (∀ p ∈ ps, DrP p d (r / m)) → DrP (.alt ps) (d + 1) r
  | opt (p : Pat) (d r : Nat) : ¬ r ≤ 1 → DrP p d r → DrP (.opt p) (d + 1) r
  | star (p : Pat) (d r : Nat) : ¬ r ≤ 1 → DrP p d r → DrP (.star p) (d + 1) r
  | up (p : Pat) (d r : Nat) : ¬ r ≤ 1 → DrP p d r → DrP p (d + 1) r
structure B7 where
  la : Nat
  lb : Nat
  ma : Nat
  mb : Nat
  fa : Nat
  fb : Nat
  s : Nat
structure Bd (p : Lg) (q : B7) : Prop where
  la : p.la ≤ q.la
  lb : p.lb ≤ q.lb
  ma : p.ma ≤ q.ma
  mb : p.mb ≤ q.mb
  fa : p.fa ≤ q.fa
  fb : p.fb ≤ q.fb
  s : p.la + p.lb ≤ q.s
def B7.max (p q : B7) : B7 := ⟨Nat.max p.la q.la, Nat.max p.lb q.lb, Nat.max p.ma q.ma, Nat.max p.mb q.mb, Nat.max p.fa q.fa, Nat.max p.fb q.fb, Nat.max p.s q.s⟩
theorem Bd.l {p : Lg} {a b : B7} (h : Bd p a) : Bd p (a.max b) := ⟨Nat.le_trans h.la (Nat.le_max_left ..), Nat.le_trans h.lb (Nat.le_max_left ..), Nat.le_trans h.ma (Nat.le_max_left ..), Nat.le_trans h.mb (Nat.le_max_left ..), Nat.le_trans h.fa (Nat.le_max_left ..), Nat.le_trans h.fb (Nat.le_max_left ..), Nat.le_trans h.s (Nat.le_max_left ..)⟩
theorem Bd.r {p : Lg} {a b : B7} (h : Bd p b) : Bd p (a.max b) := ⟨Nat.le_trans h.la (Nat.le_max_right ..), Nat.le_trans h.lb (Nat.le_max_right ..), Nat.le_trans h.ma (Nat.le_max_right ..), Nat.le_trans h.mb (Nat.le_max_right ..), Nat.le_trans h.fa (Nat.le_max_right ..), Nat.le_trans h.fb (Nat.le_max_right ..), Nat.le_trans h.s (Nat.le_max_right ..)⟩
def bSet : B7 := ⟨1, 0, 1, 1, 0, 1, 1⟩
def bOpt (q : B7) : B7 := ⟨q.la, q.lb + 1, q.ma + q.la, q.mb + q.lb + 1, q.fa, q.fb, q.s + 1⟩
def bStar (q : B7) : B7 := ⟨q.la, 1, q.ma + q.mb * q.la + q.la, q.mb + 1, q.fa + q.fb * q.la, q.fb, q.la + 1⟩
def bSeq0 : B7 := ⟨0, 1, 0, 1, 0, 0, 1⟩
def bLa (p r : B7) : Nat := if r.la = 0 then p.la else p.s + p.lb * (r.la - 1)
def bSeq (p r : B7) : B7 := ⟨bLa p r, p.lb * r.lb, r.ma + p.ma + p.mb * r.la + bLa p r, r.mb + p.mb * r.lb + p.lb * r.lb, max r.fa (p.fa + p.fb * r.la), max r.fb (p.fb * r.lb), p.s + p.lb * (r.s - 1)⟩
def bAlt0 : B7 := ⟨0, 0, 0, 0, 0, 0, 0⟩
def bAlt (p r : B7) : B7 := ⟨p.la + r.la, p.lb + r.lb, p.ma + r.ma + (p.la + r.la), p.mb + r.mb + (p.lb + r.lb), max p.fa r.fa, max p.fb r.fb, p.s + r.s⟩
theorem bSet_ok : Bd lgSet bSet := ⟨Nat.le_refl _, Nat.le_refl _, Nat.le_refl _, Nat.le_refl _, Nat.le_refl _, Nat.le_refl _, Nat.le_refl _⟩
theorem bOpt_ok {p : Lg} {b : B7} (h : Bd p b) : Bd (lgOpt p) (bOpt b) := by
  obtain ⟨h1, h2, h3, h4, h5, h6, h7⟩ := h
  constructor <;> simp only [lgOpt, bOpt] <;> omega
theorem bStar_ok {p : Lg} {b : B7} (h : Bd p b) : Bd (lgStar p) (bStar b) := by
  obtain ⟨h1, h2, h3, h4, h5, h6, h7⟩ := h
  have := Nat.mul_le_mul h4 h1
  have := Nat.mul_le_mul h6 h1
  constructor <;> simp only [lgStar, bStar] <;> omega
theorem sum_step {a b x A S X : Nat} (h : a + b ≤ S) (hb : b ≤ A) (hx : x ≤ X) : a + b * x ≤ S + A * (X - 1) := by
  cases x with
  | zero => rw [Nat.mul_zero]; omega
  | succ x =>
    have := Nat.mul_le_mul hb (show x ≤ X - 1 by omega)
    rw [Nat.mul_succ]
    omega
theorem bSeq_ok {p r : Lg} {b c : B7} (h : Bd p b) (k : Bd r c) : Bd (lgSeq p r) (bSeq b c) := by
  obtain ⟨h1, h2, h3, h4, h5, h6, h7⟩ := h
  obtain ⟨k1, k2, k3, k4, k5, k6, k7⟩ := k
  have a := Nat.mul_le_mul h2 k2
  have d := Nat.mul_le_mul h4 k1
  have e := Nat.mul_le_mul h4 k2
  have f := Nat.mul_le_mul h6 k1
  have g := Nat.mul_le_mul h6 k2
  have s1 : p.la + p.lb * r.la ≤ bLa b c := by
    unfold bLa
    split
    · rename_i z
      have : r.la = 0 := by omega
      rw [this, Nat.mul_zero]
      omega
    · exact sum_step h7 h2 k1
  have s2 : p.la + p.lb * r.la + p.lb * r.lb ≤ b.s + b.lb * (c.s - 1) := by
    have := sum_step h7 h2 k7
    rw [Nat.mul_add] at this
    omega
  constructor <;> simp only [lgSeq, bSeq] <;> omega
theorem bAlt_ok {p r : Lg} {b c : B7} (h : Bd p b) (k : Bd r c) : Bd (lgAlt p r) (bAlt b c) := by
  obtain ⟨h1, h2, h3, h4, h5, h6, h7⟩ := h
  obtain ⟨k1, k2, k3, k4, k5, k6, k7⟩ := k
  constructor <;> simp only [lgAlt, bAlt] <;> omega
def bSeqs (q : B7) : Nat → B7
  | 0 => bSeq0
  | n + 1 => bSeq q (bSeqs q n)
def bAlts (q : B7) : Nat → B7
  | 0 => bAlt0
  | n + 1 => bAlt q (bAlts q n)
theorem bSeqs_ok {b : B7} : ∀ ps : List Pat, (∀ p ∈ ps, Bd p.lg b) → Bd (lgSeqs ps) (bSeqs b ps.length)
  | [], _ => by rw [lgSeqs]; exact ⟨Nat.le_refl _, Nat.le_refl _, Nat.le_refl _, Nat.le_refl _, Nat.le_refl _, Nat.le_refl _, Nat.le_refl _⟩
  | p :: ps, h => by rw [lgSeqs]; exact bSeq_ok (h p List.mem_cons_self) (bSeqs_ok ps fun q hq => h q (List.mem_cons_of_mem _ hq))
theorem bAlts_ok {b : B7} : ∀ ps : List Pat, (∀ p ∈ ps, Bd p.lg b) → Bd (lgAlts ps) (bAlts b ps.length)
  | [], _ => by rw [lgAlts]; exact ⟨Nat.le_refl _, Nat.le_refl _, Nat.le_refl _, Nat.le_refl _, Nat.le_refl _, Nat.le_refl _, Nat.le_refl _⟩
  | p :: ps, h => by rw [lgAlts]; exact bAlt_ok (h p List.mem_cons_self) (bAlts_ok ps fun q hq => h q (List.mem_cons_of_mem _ hq))
def T7 : Nat → Nat → B7
  | 0, _ => bSet
  | d + 1, r => if r ≤ 1 then bSet else bSet.max (((bSeqs (T7 d (r / 2)) 2).max (bAlts (T7 d (r / 2)) 2)).max ((if 3 < r then (bSeqs (T7 d (r / 3)) 3).max (bAlts (T7 d (r / 3)) 3) else bSet).max ((T7 d r).max ((bOpt (T7 d r)).max (bStar (T7 d r))))))
theorem T7_set : ∀ d r : Nat, Bd lgSet (T7 d r)
  | 0, _ => bSet_ok
  | d + 1, r => by
    unfold T7
    split
    · exact bSet_ok
    · exact bSet_ok.l
theorem drp_bd {p : Pat} {d r : Nat} (h : DrP p d r) : Bd p.lg (T7 d r) := by
  induction h with
  | set s d r => rw [Pat.lg]; exact T7_set d r
  | seq ps d r m hm hl hr _ ih =>
    have := bSeqs_ok ps ih
    rw [hl] at this
    rw [Pat.lg, T7, if_neg hr]
    rcases hm with rfl | ⟨rfl, h3⟩
    · exact this.l.l.r
    · rw [if_pos h3]; exact this.l.l.r.r
  | alt ps d r m hm hl hr _ ih =>
    have := bAlts_ok ps ih
    rw [hl] at this
    rw [Pat.lg, T7, if_neg hr]
    rcases hm with rfl | ⟨rfl, h3⟩
    · exact this.r.l.r
    · rw [if_pos h3]; exact this.r.l.r.r
  | opt p d r hr _ ih => rw [Pat.lg, T7, if_neg hr]; exact (bOpt_ok ih).l.r.r.r.r
  | star p d r hr _ ih => rw [Pat.lg, T7, if_neg hr]; exact (bStar_ok ih).r.r.r.r.r
  | up p d r hr _ ih => rw [T7, if_neg hr]; exact ih.l.r.r.r
theorem T7_36 : (T7 3 6).s ≤ 15 ∧ (T7 3 6).fa ≤ 10 ∧ (T7 3 6).fb ≤ 4 ∧ (T7 3 6).ma ≤ 200 ∧ (T7 3 6).mb ≤ 60 := by decide +kernel
end LW
set_option Elab.async false
set_option linter.all false
set_option maxRecDepth 100000
set_option maxHeartbeats 1000000
namespace LW
open PySem DL
section
variable {φ : Fn} {m1 m2 : M D} {o o' : Own} {tl : DL.Env} {a b d : D}
theorem call2 (h1 : m1 (.lent o :: tl) = .ok a (.lent o :: tl)) (h : φ [.lent o, .dat a] = .rt d [.lent o', .dat a]) : eFn 0 2 φ (xOwn 0 (xDat m1 xNil)) (.lent o :: tl) = .ok d (.lent o' :: tl) := by
  simp [v_sSeq, v_for_nil, v_for_cons, v_sFor, v_sAsg, v_gNm, v_gTu, v_gNo, v_gCo, v_sRet, v_sExp, v_sIf, v_sNil, v_sRaise, v_sBrk, v_fnD, v_eC, v_eVar, v_wVar, v_eOp, v_eUn, v_asB, v_bAnd, v_bOr, v_bNot, v_eIf, v_eAnd, v_eOr, v_eNot, v_bYes, v_aNil, v_aCons, v_eTup, v_eLst, v_oLst, v_eCall, v_eFrz, v_sOwn, v_iLst, v_iTpl, v_xNil, v_xDat, v_runX, v_eFn, v_oLc, slotsX, callR, endF, backA, backX, wipeE, back1, xOwn, Slot.ow, Slot.re, h1, h]
theorem call3 (h1 : m1 (.lent o :: tl) = .ok a (.lent o :: tl)) (h2 : m2 (.lent o :: tl) = .ok b (.lent o :: tl)) (h : φ [.lent o, .dat a, .dat b] = .rt d [.lent o', .dat a, .dat b]) : eFn 0 3 φ (xOwn 0 (xDat m1 (xDat m2 xNil))) (.lent o :: tl) = .ok d (.lent o' :: tl) := by
  simp [v_sSeq, v_for_nil, v_for_cons, v_sFor, v_sAsg, v_gNm, v_gTu, v_gNo, v_gCo, v_sRet, v_sExp, v_sIf, v_sNil, v_sRaise, v_sBrk, v_fnD, v_eC, v_eVar, v_wVar, v_eOp, v_eUn, v_asB, v_bAnd, v_bOr, v_bNot, v_eIf, v_eAnd, v_eOr, v_eNot, v_bYes, v_aNil, v_aCons, v_eTup, v_eLst, v_oLst, v_eCall, v_eFrz, v_sOwn, v_iLst, v_iTpl, v_xNil, v_xDat, v_runX, v_eFn, v_oLc, slotsX, callR, endF, backA, backX, wipeE, back1, xOwn, Slot.ow, Slot.re, h1, h2, h]
end
theorem roll_call (x : Int × Int) (m : Int) (tl : DL.Env) (hm : 0 < m) (hm2 : m < 1000) : ∃ (x' : Int × Int) (v : Int), eFn 0 2 f_law_roll (xOwn 0 (xDat (eC (.int m)) xNil)) (.lent (dc x) :: tl) = .ok (.int v) (.lent (dc x') :: tl) ∧ 0 ≤ v ∧ v < m := by
  obtain ⟨x', v, h, h1, h2⟩ := roll_ok x m hm hm2
  exact ⟨x', v, call2 rfl h, h1, h2⟩
def big : Nat → Nat → Nat
  | 0, _ => 1
  | d + 1, r => if r ≤ 1 then 1 else max (max (1 + 2 * big d (r / 2)) (if 3 < r then 1 + 3 * big d (r / 3) else 0)) (1 + big d r)
structure Drawn (p : Pat) (d r : Nat) : Prop where
  wf : p.wf = true
  st : p.stars = true
  sz : p.size ≤ big d r
  se : p.sets.length ≤ max 1 r
  lg : p.lg.le (lgT d r)
  dr : DrP p d r
theorem big_pos : ∀ d r : Nat, 1 ≤ big d r
  | 0, _ => Nat.le_refl _
  | d + 1, r => by
    unfold big
    split <;> omega
@[simp] theorem divD_lit (i j : Int) (h : 0 < j) (h2 : j < 1000) : divD (.int i) (.int j) = some (.int (i / j)) := by
  have hl : j.natAbs.log2 < 9000 := by
    have := log_400 (i := j.natAbs) (by omega)
    omega
  rw [divD_int, if_pos ⟨h, hl⟩]
theorem set_at (v : Int) (h0 : 0 ≤ v) (h7 : v < 7) : ∃ s : Str, L2.atI [D.str "a", .str "b", .str "ab", .str "c", .str "a", .str "bc", .str "abc"] v = some (.str s) ∧ lets.elem s = true := by
  have : v = 0 ∨ v = 1 ∨ v = 2 ∨ v = 3 ∨ v = 4 ∨ v = 5 ∨ v = 6 := by omega
  rcases this with rfl | rfl | rfl | rfl | rfl | rfl | rfl
  · exact ⟨"a", rfl, by decide +kernel⟩
  · exact ⟨"b", rfl, by decide +kernel⟩
  · exact ⟨"ab", rfl, by decide +kernel⟩
  · exact ⟨"c", rfl, by decide +kernel⟩
  · exact ⟨"a", rfl, by decide +kernel⟩
  · exact ⟨"bc", rfl, by decide +kernel⟩
  · exact ⟨"abc", rfl, by decide +kernel⟩
theorem k_ne_oo : neD (.str "opt") (.str "opt") = some (.bl false) := by kernel_rfl
theorem k_ne_so : neD (.str "set") (.str "opt") = some (.bl true) := by kernel_rfl
theorem k_ne_qo : neD (.str "seq") (.str "opt") = some (.bl true) := by kernel_rfl
theorem k_ne_ao : neD (.str "alt") (.str "opt") = some (.bl true) := by kernel_rfl
theorem k_ne_to : neD (.str "star") (.str "opt") = some (.bl true) := by kernel_rfl
theorem draw_ok : ∀ (k d r : Nat) (D R : Int) (x : Int × Int), D = d → R = r → d < k → d ≤ 4 → r ≤ 8 → big d r ≤ 18 → ∃ (x' : Int × Int) (p : Pat), f_law_draw k [.lent (dc x), .dat (.int D), .dat (.int R)] = .rt (enc p) [.lent (dc x'), .dat (.int D), .dat (.int R)] ∧ Drawn p d r
  | 0, d, r, D, R, x, _, _, h, _, _, _ => by omega
  | k + 1, d, r, D, R, x, hD, hR, h, hd, hr, hb => by
    rw [f_law_draw, v_fnD]
    -- the set
    have aset : ∀ (y : Int × Int) (act : Int), (act < 2 ∨ D = 0) → ∃ (x' : Int × Int) (p : Pat), (sIf (bOr (asB (eOp ltD (eVar 3) (eC (.int 2)))) (asB (eOp eqD (eVar 1) (eC (.int 0))))) (sRet (eTup (aCons (eC (.str "set")) (aCons (eOp ixD (eLst (aCons (eC (.str "a")) (aCons (eC (.str "b")) (aCons (eC (.str "ab")) (aCons (eC (.str "c")) (aCons (eC (.str "a")) (aCons (eC (.str "bc")) (aCons (eC (.str "abc")) aNil)))))))) (eFn 0 2 f_law_roll (xOwn 0 (xDat (eC (.int 7)) xNil)))) aNil)))) sNil) [.lent (dc y), .dat (.int D), .dat (.int R), .dat (.int act), .emp, .emp, .emp, .emp] = .rt (enc p) [.lent (dc x'), .dat (.int D), .dat (.int R), .dat (.int act), .emp, .emp, .emp, .emp] ∧ Drawn p d r := fun y act ha => by
      obtain ⟨z, w, e, w0, w7⟩ := roll_call y 7 [.dat (.int D), .dat (.int R), .dat (.int act), .emp, .emp, .emp, .emp] (by decide) (by decide)
      obtain ⟨s, es, hs⟩ := set_at w w0 w7
      refine ⟨z, .set s, ?_, ⟨by rw [Pat.wf]; exact hs, by rw [Pat.stars], by rw [Pat.size]; exact big_pos _ _, by simp [Pat.sets]; omega, by rw [Pat.lg]; exact lgT_set _ _, .set _ _ _⟩⟩
      rw [enc_set]
      by_cases h2 : act < 2
      · simp [v_sSeq, v_for_nil, v_for_cons, v_sFor, v_sAsg, v_gNm, v_gTu, v_gNo, v_gCo, v_sRet, v_sExp, v_sIf, v_sNil, v_sRaise, v_sBrk, v_fnD, v_eC, v_eVar, v_wVar, v_eOp, v_eUn, v_asB, v_bAnd, v_bOr, v_bNot, v_eIf, v_eAnd, v_eOr, v_eNot, v_bYes, v_aNil, v_aCons, v_eTup, v_eLst, v_oLst, v_eCall, v_eFrz, v_sOwn, v_iLst, v_iTpl, v_xNil, v_xDat, v_oLc, slotsX, callR, endF, backA, backX, wipeE, back1, h2, e, es]
      · have h3 : D = 0 := ha.resolve_left h2
        subst h3
        simp [v_sSeq, v_for_nil, v_for_cons, v_sFor, v_sAsg, v_gNm, v_gTu, v_gNo, v_gCo, v_sRet, v_sExp, v_sIf, v_sNil, v_sRaise, v_sBrk, v_fnD, v_eC, v_eVar, v_wVar, v_eOp, v_eUn, v_asB, v_bAnd, v_bOr, v_bNot, v_eIf, v_eAnd, v_eOr, v_eNot, v_bYes, v_aNil, v_aCons, v_eTup, v_eLst, v_oLst, v_eCall, v_eFrz, v_sOwn, v_iLst, v_iTpl, v_xNil, v_xDat, v_oLc, slotsX, callR, endF, backA, backX, wipeE, back1, h2, e, es]
    -- the roll
    have hact : ∃ (y : Int × Int) (act : Int), eIf (bAnd (asB (eOp gtD (eVar 1) (eC (.int 0)))) (asB (eOp gtD (eVar 2) (eC (.int 1))))) (eFn 0 2 f_law_roll (xOwn 0 (xDat (eC (.int 9)) xNil))) (eFn 0 2 f_law_roll (xOwn 0 (xDat (eC (.int 2)) xNil))) [.lent (dc x), .dat (.int D), .dat (.int R), .emp, .emp, .emp, .emp, .emp] = .ok (.int act) [.lent (dc y), .dat (.int D), .dat (.int R), .emp, .emp, .emp, .emp, .emp] ∧ 0 ≤ act ∧ (act < 2 ∨ (0 < D ∧ 1 < R)) := by
      by_cases h0 : 0 < D
      · by_cases h1 : 1 < R
        · obtain ⟨y, v, e, v0, v9⟩ := roll_call x 9 [.dat (.int D), .dat (.int R), .emp, .emp, .emp, .emp, .emp] (by decide) (by decide)
          exact ⟨y, v, by simp [v_sSeq, v_for_nil, v_for_cons, v_sFor, v_sAsg, v_gNm, v_gTu, v_gNo, v_gCo, v_sRet, v_sExp, v_sIf, v_sNil, v_sRaise, v_sBrk, v_fnD, v_eC, v_eVar, v_wVar, v_eOp, v_eUn, v_asB, v_bAnd, v_bOr, v_bNot, v_eIf, v_eAnd, v_eOr, v_eNot, v_bYes, v_aNil, v_aCons, v_eTup, v_eLst, v_oLst, v_eCall, v_eFrz, v_sOwn, v_iLst, v_iTpl, v_xNil, v_xDat, v_oLc, slotsX, callR, endF, backA, backX, wipeE, back1, h0, h1, e], v0, .inr ⟨h0, h1⟩⟩
        · obtain ⟨y, v, e, v0, v9⟩ := roll_call x 2 [.dat (.int D), .dat (.int R), .emp, .emp, .emp, .emp, .emp] (by decide) (by decide)
          exact ⟨y, v, by simp [v_sSeq, v_for_nil, v_for_cons, v_sFor, v_sAsg, v_gNm, v_gTu, v_gNo, v_gCo, v_sRet, v_sExp, v_sIf, v_sNil, v_sRaise, v_sBrk, v_fnD, v_eC, v_eVar, v_wVar, v_eOp, v_eUn, v_asB, v_bAnd, v_bOr, v_bNot, v_eIf, v_eAnd, v_eOr, v_eNot, v_bYes, v_aNil, v_aCons, v_eTup, v_eLst, v_oLst, v_eCall, v_eFrz, v_sOwn, v_iLst, v_iTpl, v_xNil, v_xDat, v_oLc, slotsX, callR, endF, backA, backX, wipeE, back1, h0, h1, e], v0, .inl v9⟩
      · obtain ⟨y, v, e, v0, v9⟩ := roll_call x 2 [.dat (.int D), .dat (.int R), .emp, .emp, .emp, .emp, .emp] (by decide) (by decide)
        exact ⟨y, v, by simp [v_sSeq, v_for_nil, v_for_cons, v_sFor, v_sAsg, v_gNm, v_gTu, v_gNo, v_gCo, v_sRet, v_sExp, v_sIf, v_sNil, v_sRaise, v_sBrk, v_fnD, v_eC, v_eVar, v_wVar, v_eOp, v_eUn, v_asB, v_bAnd, v_bOr, v_bNot, v_eIf, v_eAnd, v_eOr, v_eNot, v_bYes, v_aNil, v_aCons, v_eTup, v_eLst, v_oLst, v_eCall, v_eFrz, v_sOwn, v_iLst, v_iTpl, v_xNil, v_xDat, v_oLc, slotsX, callR, endF, backA, backX, wipeE, back1, h0, e], v0, .inl v9⟩
    obtain ⟨y, act, eact, a0, a2⟩ := hact
    unfold b_law_draw
    generalize eIf (bAnd (asB (eOp gtD (eVar 1) (eC (.int 0)))) (asB (eOp gtD (eVar 2) (eC (.int 1))))) (eFn 0 2 f_law_roll (xOwn 0 (xDat (eC (.int 9)) xNil))) (eFn 0 2 f_law_roll (xOwn 0 (xDat (eC (.int 2)) xNil))) = A at eact ⊢
    by_cases hs : act < 2 ∨ D = 0
    · obtain ⟨x', p, e, hp⟩ := aset y act hs
      refine ⟨x', p, ?_, hp⟩
      simp [v_sSeq, v_sAsg, eact, v_gNm, e, endF, backA]
    have hs1 : ¬ act < 2 := fun z => hs (.inl z)
    have hs0 : ¬ D = 0 := fun z => hs (.inr z)
    obtain ⟨hD0, hR1⟩ := a2.resolve_left hs1
    obtain ⟨d', rfl⟩ : ∃ d', d = d' + 1 := ⟨d - 1, by omega⟩
    have hr1 : ¬ r ≤ 1 := by omega
    have hbig : big (d' + 1) r = max (max (1 + 2 * big d' (r / 2)) (if 3 < r then 1 + 3 * big d' (r / 3) else 0)) (1 + big d' r) := by rw [big, if_neg hr1]
    by_cases h6 : act < 6
    · -- several items
      have hmany : ∃ (y' : Int × Int) (m : Nat) (M : Int), M = m ∧ (m = 2 ∨ (m = 3 ∧ 3 < r)) ∧ eOp addD (eC (.int 2)) (eIf (asB (eOp gtD (eVar 2) (eC (.int 3)))) (eFn 0 2 f_law_roll (xOwn 0 (xDat (eC (.int 2)) xNil))) (eC (.int 0))) [.lent (dc y), .dat (.int D), .dat (.int R), .dat (.int act), .emp, .emp, .emp, .emp] = .ok (.int M) [.lent (dc y'), .dat (.int D), .dat (.int R), .dat (.int act), .emp, .emp, .emp, .emp] := by
        by_cases h3 : 3 < R
        · obtain ⟨z, v, e, v0, v2⟩ := roll_call y 2 [.dat (.int D), .dat (.int R), .dat (.int act), .emp, .emp, .emp, .emp] (by decide) (by decide)
          refine ⟨z, (2 + v).toNat, 2 + v, by omega, by omega, ?_⟩
          simp [v_sSeq, v_for_nil, v_for_cons, v_sFor, v_sAsg, v_gNm, v_gTu, v_gNo, v_gCo, v_sRet, v_sExp, v_sIf, v_sNil, v_sRaise, v_sBrk, v_fnD, v_eC, v_eVar, v_wVar, v_eOp, v_eUn, v_asB, v_bAnd, v_bOr, v_bNot, v_eIf, v_eAnd, v_eOr, v_eNot, v_bYes, v_aNil, v_aCons, v_eTup, v_eLst, v_oLst, v_eCall, v_eFrz, v_sOwn, v_iLst, v_iTpl, v_xNil, v_xDat, v_oLc, slotsX, callR, endF, backA, backX, wipeE, back1, h3, e]
        · refine ⟨y, 2, 2, rfl, .inl rfl, ?_⟩
          simp [v_sSeq, v_for_nil, v_for_cons, v_sFor, v_sAsg, v_gNm, v_gTu, v_gNo, v_gCo, v_sRet, v_sExp, v_sIf, v_sNil, v_sRaise, v_sBrk, v_fnD, v_eC, v_eVar, v_wVar, v_eOp, v_eUn, v_asB, v_bAnd, v_bOr, v_bNot, v_eIf, v_eAnd, v_eOr, v_eNot, v_bYes, v_aNil, v_aCons, v_eTup, v_eLst, v_oLst, v_eCall, v_eFrz, v_sOwn, v_iLst, v_iTpl, v_xNil, v_xDat, v_oLc, slotsX, callR, endF, backA, backX, wipeE, back1, h3]
      obtain ⟨y', m, M, hM, hm, eM⟩ := hmany
      generalize eOp addD (eC (.int 2)) (eIf (asB (eOp gtD (eVar 2) (eC (.int 3)))) (eFn 0 2 f_law_roll (xOwn 0 (xDat (eC (.int 2)) xNil))) (eC (.int 0))) = B at eM ⊢
      have hM0 : 0 < M := by omega
      have hM1 : M < 1000 := by omega
      have hML : M.natAbs.log2 < 9000 := by
        have := log_400 (i := M.natAbs) (by omega)
        omega
      have hbm : big d' (r / m) ≤ 18 ∧ 1 + m * big d' (r / m) ≤ big (d' + 1) r := by
        rcases hm with rfl | ⟨rfl, hm⟩
        · rw [hbig] at hb ⊢
          omega
        · rw [hbig, if_pos hm] at hb ⊢
          omega
      have hdraw : ∀ u : Int × Int, ∃ (u' : Int × Int) (p : Pat), f_law_draw k [.lent (dc u), .dat (.int (D - 1)), .dat (.int (R / M))] = .rt (enc p) [.lent (dc u'), .dat (.int (D - 1)), .dat (.int (R / M))] ∧ Drawn p d' (r / m) := fun u =>
        draw_ok k d' (r / m) (D - 1) (R / M) u (by omega) (by rw [hR, hM]; rfl) (by omega) (by omega) (by have := Nat.div_le_self r m; omega) hbm.1
      have hcomp : ∀ (n : Nat) (lo : Int) (u : Int × Int), ∃ (u' : Int × Int) (ps : List Pat), ps.length = n ∧ (∀ p ∈ ps, Drawn p d' (r / m)) ∧ compD [7] (gNm 7) bYes (eFn 0 3 (f_law_draw k) (xOwn 0 (xDat (eOp subD (eVar 1) (eC (.int 1))) (xDat (eOp divD (eVar 2) (eVar 5)) xNil)))) (rangeD lo n) [.lent (dc u), .dat (.int D), .dat (.int R), .dat (.int act), .emp, .dat (.int M), .emp, .emp] = .ok (ps.map enc) [.lent (dc u'), .dat (.int D), .dat (.int R), .dat (.int act), .emp, .dat (.int M), .emp, .emp] := by
        intro n
        induction n with
        | zero => exact fun lo u => ⟨u, [], rfl, fun p hp => (by cases hp), rfl⟩
        | succ n ih =>
          intro lo u
          obtain ⟨u1, p, e1, hp⟩ := hdraw u
          obtain ⟨u2, ps, hl, hps, e2⟩ := ih (lo + 1) u1
          refine ⟨u2, p :: ps, by simp [hl], fun q hq => ?_, ?_⟩
          · rcases List.mem_cons.mp hq with z | z
            · rw [z]; exact hp
            · exact hps q z
          · have e3 : eFn 0 3 (f_law_draw k) (xOwn 0 (xDat (eOp subD (eVar 1) (eC (.int 1))) (xDat (eOp divD (eVar 2) (eVar 5)) xNil))) [.lent (dc u), .dat (.int D), .dat (.int R), .dat (.int act), .emp, .dat (.int M), .emp, .dat (.int lo)] = .ok (enc p) [.lent (dc u1), .dat (.int D), .dat (.int R), .dat (.int act), .emp, .dat (.int M), .emp, .dat (.int lo)] :=
              call3 (by simp [v_sSeq, v_for_nil, v_for_cons, v_sFor, v_sAsg, v_gNm, v_gTu, v_gNo, v_gCo, v_sRet, v_sExp, v_sIf, v_sNil, v_sRaise, v_sBrk, v_fnD, v_eC, v_eVar, v_wVar, v_eOp, v_eUn, v_asB, v_bAnd, v_bOr, v_bNot, v_eIf, v_eAnd, v_eOr, v_eNot, v_bYes, v_aNil, v_aCons, v_eTup, v_eLst, v_oLst, v_eCall, v_eFrz, v_sOwn, v_iLst, v_iTpl, v_xNil, v_xDat, v_oLc, slotsX, callR, endF, backA, backX, wipeE, back1]) (by simp [v_sSeq, v_for_nil, v_for_cons, v_sFor, v_sAsg, v_gNm, v_gTu, v_gNo, v_gCo, v_sRet, v_sExp, v_sIf, v_sNil, v_sRaise, v_sBrk, v_fnD, v_eC, v_eVar, v_wVar, v_eOp, v_eUn, v_asB, v_bAnd, v_bOr, v_bNot, v_eIf, v_eAnd, v_eOr, v_eNot, v_bYes, v_aNil, v_aCons, v_eTup, v_eLst, v_oLst, v_eCall, v_eFrz, v_sOwn, v_iLst, v_iTpl, v_xNil, v_xDat, v_oLc, slotsX, callR, endF, backA, backX, wipeE, back1, hM0, hML]) e1
            rw [rangeD, v_comp_cons]
            simp [v_sSeq, v_for_nil, v_for_cons, v_sFor, v_sAsg, v_gNm, v_gTu, v_gNo, v_gCo, v_sRet, v_sExp, v_sIf, v_sNil, v_sRaise, v_sBrk, v_fnD, v_eC, v_eVar, v_wVar, v_eOp, v_eUn, v_asB, v_bAnd, v_bOr, v_bNot, v_eIf, v_eAnd, v_eOr, v_eNot, v_bYes, v_aNil, v_aCons, v_eTup, v_eLst, v_oLst, v_eCall, v_eFrz, v_sOwn, v_iLst, v_iTpl, v_xNil, v_xDat, v_oLc, slotsX, callR, endF, backA, backX, wipeE, back1, e3, e2]
      obtain ⟨u', ps, hl, hps, ec⟩ := hcomp m 0 y'
      have hl6 : m ≤ 1000000 := by omega
      have hin : DL.inR M = true := by
        unfold DL.inR
        simp
        omega
      have hr7 : M.toNat = m := by omega
      have hrl := rangeD_length m 0
      have hlen2 : ps.length = m := hl
      have hsum : ∀ qs : List Pat, (∀ q ∈ qs, Drawn q d' (r / m)) → wfAll qs = true ∧ starsAll qs = true ∧ sizeAll qs ≤ qs.length * big d' (r / m) ∧ (setsAll qs).length ≤ qs.length * max 1 (r / m) := fun qs hq => by
        induction qs with
        | nil => simp [wfAll, starsAll, sizeAll, setsAll]
        | cons q t ih =>
          obtain ⟨i1, i2, i3, i4⟩ := ih fun z hz => hq z (List.mem_cons_of_mem _ hz)
          have hz := hq q List.mem_cons_self
          have z1 := hz.sz
          have z2 := hz.se
          refine ⟨by rw [wfAll, hz.wf, i1]; rfl, by rw [starsAll, hz.st, i2]; rfl, ?_, ?_⟩
          · rw [sizeAll, List.length_cons, Nat.add_mul]
            omega
          · rw [setsAll, List.length_append, List.length_cons, Nat.add_mul]
            omega
      obtain ⟨s1, s2, s3, s4⟩ := hsum ps hps
      have hsets : m * max 1 (r / m) ≤ max 1 r := by
        rcases hm with rfl | ⟨rfl, hm⟩ <;> omega
      rw [hl] at s3 s4
      have l2 : decide (2 ≤ ps.length) = true := decide_eq_true (by omega)
      have l4 : decide (ps.length ≤ 4) = true := decide_eq_true (by omega)
      have lgs : (lgSeqs ps).le (lgT (d' + 1) r) := by
        refine (seqs_rep ps fun p hp => (hps p hp).lg).trans ?_
        rw [hl]
        rcases hm with rfl | ⟨rfl, _⟩
        · exact lgT_s2 hr1
        · exact lgT_s3 hr1
      have lgal : (lgAlts ps).le (lgT (d' + 1) r) := by
        refine (alts_rep ps fun p hp => (hps p hp).lg).trans ?_
        rw [hl]
        rcases hm with rfl | ⟨rfl, _⟩
        · exact lgT_a2 hr1
        · exact lgT_a3 hr1
      by_cases h4 : act < 4
      · refine ⟨u', .seq ps, ?_, ⟨by rw [Pat.wf, l2, l4, s1]; rfl, by rw [Pat.stars, s2], by rw [Pat.size]; omega, by rw [Pat.sets]; omega, by rw [Pat.lg]; exact lgs, .seq ps d' r m hm hl hr1 fun p hp => (hps p hp).dr⟩⟩
        rw [enc_seq]
        simp [v_sSeq, v_for_nil, v_for_cons, v_sFor, v_sAsg, v_gNm, v_gTu, v_gNo, v_gCo, v_sRet, v_sExp, v_sIf, v_sNil, v_sRaise, v_sBrk, v_fnD, v_eC, v_eVar, v_wVar, v_eOp, v_eUn, v_asB, v_bAnd, v_bOr, v_bNot, v_eIf, v_eAnd, v_eOr, v_eNot, v_bYes, v_aNil, v_aCons, v_eTup, v_eLst, v_oLst, v_eCall, v_eFrz, v_sOwn, v_iLst, v_iTpl, v_xNil, v_xDat, v_oLc, slotsX, callR, endF, backA, backX, wipeE, back1, eact, hs1, hs0, h6, hR1, eM, iRg1, hin, hr7, hrl, hl6, ec, h4]
      · refine ⟨u', .alt ps, ?_, ⟨by rw [Pat.wf, l2, l4, s1]; rfl, by rw [Pat.stars, s2], by rw [Pat.size]; omega, by rw [Pat.sets]; omega, by rw [Pat.lg]; exact lgal, .alt ps d' r m hm hl hr1 fun p hp => (hps p hp).dr⟩⟩
        rw [enc_alt]
        simp [v_sSeq, v_for_nil, v_for_cons, v_sFor, v_sAsg, v_gNm, v_gTu, v_gNo, v_gCo, v_sRet, v_sExp, v_sIf, v_sNil, v_sRaise, v_sBrk, v_fnD, v_eC, v_eVar, v_wVar, v_eOp, v_eUn, v_asB, v_bAnd, v_bOr, v_bNot, v_eIf, v_eAnd, v_eOr, v_eNot, v_bYes, v_aNil, v_aCons, v_eTup, v_eLst, v_oLst, v_eCall, v_eFrz, v_sOwn, v_iLst, v_iTpl, v_xNil, v_xDat, v_oLc, slotsX, callR, endF, backA, backX, wipeE, back1, eact, hs1, hs0, h6, hR1, eM, iRg1, hin, hr7, hrl, hl6, ec, h4]
    · -- one item
      obtain ⟨z, p, e1, hp⟩ := draw_ok k d' r (D - 1) R y (by omega) hR (by omega) (by omega) hr (by rw [hbig] at hb; omega)
      have e2 : eFn 0 3 (f_law_draw k) (xOwn 0 (xDat (eOp subD (eVar 1) (eC (.int 1))) (xDat (eVar 2) xNil))) [.lent (dc y), .dat (.int D), .dat (.int R), .dat (.int act), .emp, .emp, .emp, .emp] = .ok (enc p) [.lent (dc z), .dat (.int D), .dat (.int R), .dat (.int act), .emp, .emp, .emp, .emp] :=
        call3 (by simp [v_sSeq, v_for_nil, v_for_cons, v_sFor, v_sAsg, v_gNm, v_gTu, v_gNo, v_gCo, v_sRet, v_sExp, v_sIf, v_sNil, v_sRaise, v_sBrk, v_fnD, v_eC, v_eVar, v_wVar, v_eOp, v_eUn, v_asB, v_bAnd, v_bOr, v_bNot, v_eIf, v_eAnd, v_eOr, v_eNot, v_bYes, v_aNil, v_aCons, v_eTup, v_eLst, v_oLst, v_eCall, v_eFrz, v_sOwn, v_iLst, v_iTpl, v_xNil, v_xDat, v_oLc, slotsX, callR, endF, backA, backX, wipeE, back1]) (by simp [v_sSeq, v_for_nil, v_for_cons, v_sFor, v_sAsg, v_gNm, v_gTu, v_gNo, v_gCo, v_sRet, v_sExp, v_sIf, v_sNil, v_sRaise, v_sBrk, v_fnD, v_eC, v_eVar, v_wVar, v_eOp, v_eUn, v_asB, v_bAnd, v_bOr, v_bNot, v_eIf, v_eAnd, v_eOr, v_eNot, v_bYes, v_aNil, v_aCons, v_eTup, v_eLst, v_oLst, v_eCall, v_eFrz, v_sOwn, v_iLst, v_iTpl, v_xNil, v_xDat, v_oLc, slotsX, callR, endF, backA, backX, wipeE, back1]) e1
      have z1 := hp.sz
      have z2 := hp.se
      have hn := lnull_ok 20 p (by rw [hbig] at hb; omega) (by omega)
      have hb2 : 1 + big d' r ≤ big (d' + 1) r := by rw [hbig]; omega
      have hnc : ∀ tl0 tl1 tl2 tl3 tl5 tl6 tl7, eFn 0 1 (f_law_null 20) (xDat (eVar 4) xNil) [tl0, tl1, tl2, tl3, .dat (enc p), tl5, tl6, tl7] = .ok (.bl p.null) [tl0, tl1, tl2, tl3, .dat (enc p), tl5, tl6, tl7] := fun _ _ _ _ _ _ _ => by
        simp [v_sSeq, v_for_nil, v_for_cons, v_sFor, v_sAsg, v_gNm, v_gTu, v_gNo, v_gCo, v_sRet, v_sExp, v_sIf, v_sNil, v_sRaise, v_sBrk, v_fnD, v_eC, v_eVar, v_wVar, v_eOp, v_eUn, v_asB, v_bAnd, v_bOr, v_bNot, v_eIf, v_eAnd, v_eOr, v_eNot, v_bYes, v_aNil, v_aCons, v_eTup, v_eLst, v_oLst, v_eCall, v_eFrz, v_sOwn, v_iLst, v_iTpl, v_xNil, v_xDat, v_runX, v_eFn, v_oLc, slotsX, callR, endF, backA, backX, wipeE, back1, hn]
      by_cases h8 : act < 8 ∧ p.null = false
      · refine ⟨z, .star p, ?_, ⟨by rw [Pat.wf]; exact hp.wf, by rw [Pat.stars, h8.2, hp.st]; rfl, by rw [Pat.size]; omega, by rw [Pat.sets]; exact z2, by rw [Pat.lg]; exact (lgStar_mono hp.lg).trans (lgT_t hr1), .star _ _ _ hr1 hp.dr⟩⟩
        rw [enc_star]
        simp [v_sSeq, v_for_nil, v_for_cons, v_sFor, v_sAsg, v_gNm, v_gTu, v_gNo, v_gCo, v_sRet, v_sExp, v_sIf, v_sNil, v_sRaise, v_sBrk, v_fnD, v_eC, v_eVar, v_wVar, v_eOp, v_eUn, v_asB, v_bAnd, v_bOr, v_bNot, v_eIf, v_eAnd, v_eOr, v_eNot, v_bYes, v_aNil, v_aCons, v_eTup, v_eLst, v_oLst, v_eCall, v_eFrz, v_sOwn, v_iLst, v_iTpl, v_xNil, v_xDat, v_oLc, slotsX, callR, endF, backA, backX, wipeE, back1, eact, hs1, hs0, h6, e2, hnc, h8.1, h8.2]
      · have hcond : ∀ tl0 tl1 tl2 tl5 tl6 tl7, bAnd (asB (eOp ltD (eVar 3) (eC (.int 8)))) (bNot (asB (eFn 0 1 (f_law_null 20) (xDat (eVar 4) xNil)))) [tl0, tl1, tl2, .dat (.int act), .dat (enc p), tl5, tl6, tl7] = .ok false [tl0, tl1, tl2, .dat (.int act), .dat (enc p), tl5, tl6, tl7] := fun _ _ _ _ _ _ => by
          by_cases h9 : act < 8
          · have : p.null = true := by
              cases q : p.null with
              | true => rfl
              | false => exact absurd ⟨h9, q⟩ h8
            simp [v_sSeq, v_for_nil, v_for_cons, v_sFor, v_sAsg, v_gNm, v_gTu, v_gNo, v_gCo, v_sRet, v_sExp, v_sIf, v_sNil, v_sRaise, v_sBrk, v_fnD, v_eC, v_eVar, v_wVar, v_eOp, v_eUn, v_asB, v_bAnd, v_bOr, v_bNot, v_eIf, v_eAnd, v_eOr, v_eNot, v_bYes, v_aNil, v_aCons, v_eTup, v_eLst, v_oLst, v_eCall, v_eFrz, v_sOwn, v_iLst, v_iTpl, v_xNil, v_xDat, v_oLc, slotsX, callR, endF, backA, backX, wipeE, back1, h9, hnc, this]
          · simp [v_sSeq, v_for_nil, v_for_cons, v_sFor, v_sAsg, v_gNm, v_gTu, v_gNo, v_gCo, v_sRet, v_sExp, v_sIf, v_sNil, v_sRaise, v_sBrk, v_fnD, v_eC, v_eVar, v_wVar, v_eOp, v_eUn, v_asB, v_bAnd, v_bOr, v_bNot, v_eIf, v_eAnd, v_eOr, v_eNot, v_bYes, v_aNil, v_aCons, v_eTup, v_eLst, v_oLst, v_eCall, v_eFrz, v_sOwn, v_iLst, v_iTpl, v_xNil, v_xDat, v_oLc, slotsX, callR, endF, backA, backX, wipeE, back1, h9]
        generalize bAnd (asB (eOp ltD (eVar 3) (eC (.int 8)))) (bNot (asB (eFn 0 1 (f_law_null 20) (xDat (eVar 4) xNil)))) = C at hcond ⊢
        cases p with
        | opt q =>
          refine ⟨z, .opt q, ?_, ⟨hp.wf, hp.st, by omega, z2, hp.lg.trans (lgT_i hr1), .up _ _ _ hr1 hp.dr⟩⟩
          simp [v_sSeq, v_for_nil, v_for_cons, v_sFor, v_sAsg, v_gNm, v_gTu, v_gNo, v_gCo, v_sRet, v_sExp, v_sIf, v_sNil, v_sRaise, v_sBrk, v_fnD, v_eC, v_eVar, v_wVar, v_eOp, v_eUn, v_asB, v_bAnd, v_bOr, v_bNot, v_eIf, v_eAnd, v_eOr, v_eNot, v_bYes, v_aNil, v_aCons, v_eTup, v_eLst, v_oLst, v_eCall, v_eFrz, v_sOwn, v_iLst, v_iTpl, v_xNil, v_xDat, v_oLc, slotsX, callR, endF, backA, backX, wipeE, back1, eact, hs1, hs0, h6, e2, hcond, k_ne_oo]
        | set q =>
          refine ⟨z, .opt (.set q), ?_, ⟨by rw [Pat.wf]; exact hp.wf, by rw [Pat.stars]; exact hp.st, by rw [Pat.size]; omega, by rw [Pat.sets]; exact z2, by rw [Pat.lg]; exact (lgOpt_mono hp.lg).trans (lgT_o hr1), .opt _ _ _ hr1 hp.dr⟩⟩
          rw [enc_opt]
          simp [v_sSeq, v_for_nil, v_for_cons, v_sFor, v_sAsg, v_gNm, v_gTu, v_gNo, v_gCo, v_sRet, v_sExp, v_sIf, v_sNil, v_sRaise, v_sBrk, v_fnD, v_eC, v_eVar, v_wVar, v_eOp, v_eUn, v_asB, v_bAnd, v_bOr, v_bNot, v_eIf, v_eAnd, v_eOr, v_eNot, v_bYes, v_aNil, v_aCons, v_eTup, v_eLst, v_oLst, v_eCall, v_eFrz, v_sOwn, v_iLst, v_iTpl, v_xNil, v_xDat, v_oLc, slotsX, callR, endF, backA, backX, wipeE, back1, eact, hs1, hs0, h6, e2, hcond, k_ne_so]
        | seq q =>
          refine ⟨z, .opt (.seq q), ?_, ⟨by rw [Pat.wf]; exact hp.wf, by rw [Pat.stars]; exact hp.st, by rw [Pat.size]; omega, by rw [Pat.sets]; exact z2, by rw [Pat.lg]; exact (lgOpt_mono hp.lg).trans (lgT_o hr1), .opt _ _ _ hr1 hp.dr⟩⟩
          rw [enc_opt]
          simp [v_sSeq, v_for_nil, v_for_cons, v_sFor, v_sAsg, v_gNm, v_gTu, v_gNo, v_gCo, v_sRet, v_sExp, v_sIf, v_sNil, v_sRaise, v_sBrk, v_fnD, v_eC, v_eVar, v_wVar, v_eOp, v_eUn, v_asB, v_bAnd, v_bOr, v_bNot, v_eIf, v_eAnd, v_eOr, v_eNot, v_bYes, v_aNil, v_aCons, v_eTup, v_eLst, v_oLst, v_eCall, v_eFrz, v_sOwn, v_iLst, v_iTpl, v_xNil, v_xDat, v_oLc, slotsX, callR, endF, backA, backX, wipeE, back1, eact, hs1, hs0, h6, e2, hcond, k_ne_qo]
        | alt q =>
          refine ⟨z, .opt (.alt q), ?_, ⟨by rw [Pat.wf]; exact hp.wf, by rw [Pat.stars]; exact hp.st, by rw [Pat.size]; omega, by rw [Pat.sets]; exact z2, by rw [Pat.lg]; exact (lgOpt_mono hp.lg).trans (lgT_o hr1), .opt _ _ _ hr1 hp.dr⟩⟩
          rw [enc_opt]
          simp [v_sSeq, v_for_nil, v_for_cons, v_sFor, v_sAsg, v_gNm, v_gTu, v_gNo, v_gCo, v_sRet, v_sExp, v_sIf, v_sNil, v_sRaise, v_sBrk, v_fnD, v_eC, v_eVar, v_wVar, v_eOp, v_eUn, v_asB, v_bAnd, v_bOr, v_bNot, v_eIf, v_eAnd, v_eOr, v_eNot, v_bYes, v_aNil, v_aCons, v_eTup, v_eLst, v_oLst, v_eCall, v_eFrz, v_sOwn, v_iLst, v_iTpl, v_xNil, v_xDat, v_oLc, slotsX, callR, endF, backA, backX, wipeE, back1, eact, hs1, hs0, h6, e2, hcond, k_ne_ao]
        | star q =>
          refine ⟨z, .opt (.star q), ?_, ⟨by rw [Pat.wf]; exact hp.wf, by rw [Pat.stars]; exact hp.st, by rw [Pat.size]; omega, by rw [Pat.sets]; exact z2, by rw [Pat.lg]; exact (lgOpt_mono hp.lg).trans (lgT_o hr1), .opt _ _ _ hr1 hp.dr⟩⟩
          rw [enc_opt]
          simp [v_sSeq, v_for_nil, v_for_cons, v_sFor, v_sAsg, v_gNm, v_gTu, v_gNo, v_gCo, v_sRet, v_sExp, v_sIf, v_sNil, v_sRaise, v_sBrk, v_fnD, v_eC, v_eVar, v_wVar, v_eOp, v_eUn, v_asB, v_bAnd, v_bOr, v_bNot, v_eIf, v_eAnd, v_eOr, v_eNot, v_bYes, v_aNil, v_aCons, v_eTup, v_eLst, v_oLst, v_eCall, v_eFrz, v_sOwn, v_iLst, v_iTpl, v_xNil, v_xDat, v_oLc, slotsX, callR, endF, backA, backX, wipeE, back1, eact, hs1, hs0, h6, e2, hcond, k_ne_to]
end LW
set_option Elab.async false
set_option linter.all false
set_option maxRecDepth 100000
set_option maxHeartbeats 1000000
namespace LW
open PySem DL
structure Known (p : Pat) : Prop where
  wf : p.wf = true
  st : p.stars = true
  sz : p.size ≤ 14
  se : p.sets.length ≤ 6
  lg : p.lg.ma + p.lg.mb ≤ 100000
  fl : p.lg.fa + p.lg.fb ≤ 24
  sl : p.lg.la ≤ 21 ∧ p.lg.lb ≤ 8 ∧ p.lg.fa ≤ 16 ∧ p.lg.fb ≤ 4
  s7 : p.lg.la + p.lg.lb ≤ 15 ∧ p.lg.fa ≤ 10 ∧ p.lg.fb ≤ 4 ∧ p.lg.ma ≤ 200 ∧ p.lg.mb ≤ 60
theorem Known.good {p : Pat} (h : Known p) : p.good = true := by
  unfold Pat.good
  rw [h.st, decide_eq_true (show p.size ≤ 16 by have := h.sz; omega), decide_eq_true (show p.sets.length ≤ 8 by have := h.se; omega)]
  rfl
def knownB (p : Pat) : Bool := p.wf && p.stars && decide (p.size ≤ 14) && decide (p.sets.length ≤ 6) && decide (p.lg.ma + p.lg.mb ≤ 100000) && decide (p.lg.fa + p.lg.fb ≤ 24) && decide (p.lg.la ≤ 21 ∧ p.lg.lb ≤ 8 ∧ p.lg.fa ≤ 16 ∧ p.lg.fb ≤ 4) && decide (p.lg.la + p.lg.lb ≤ 15 ∧ p.lg.fa ≤ 10 ∧ p.lg.fb ≤ 4 ∧ p.lg.ma ≤ 200 ∧ p.lg.mb ≤ 60)
theorem known_of {p : Pat} (h : knownB p = true) : Known p := by
  unfold knownB at h
  simp only [Bool.and_eq_true, decide_eq_true_eq] at h
  exact ⟨h.1.1.1.1.1.1.1, h.1.1.1.1.1.1.2, h.1.1.1.1.1.2, h.1.1.1.1.2, h.1.1.1.2, h.1.1.2, h.1.2, h.2⟩
def pA : Pat := .set "a"
def pAB : Pat := .set "ab"
def pB : Pat := .set "b"
def pC : Pat := .set "c"
theorem pattern_ok (x : Int × Int) : ∃ (x' : Int × Int) (p : Pat), f_law_pattern [.lent (dc x)] = .rt (enc p) [.lent (dc x')] ∧ Known p := by
  rw [f_law_pattern, v_fnD]
  obtain ⟨y, v, e, v0, v14⟩ := roll_call x 14 [.emp, .emp, .emp, .emp] (by decide) (by decide)
  by_cases h0 : v = 0
  · refine ⟨y, .star (.alt [pA, pAB]), ?_, known_of (by decide +kernel)⟩
    simp [b_law_pattern, v_sSeq, v_for_nil, v_for_cons, v_sFor, v_sAsg, v_gNm, v_gTu, v_gNo, v_gCo, v_sRet, v_sExp, v_sIf, v_sNil, v_sRaise, v_sBrk, v_fnD, v_eC, v_eVar, v_wVar, v_eOp, v_eUn, v_asB, v_bAnd, v_bOr, v_bNot, v_eIf, v_eAnd, v_eOr, v_eNot, v_bYes, v_aNil, v_aCons, v_eTup, v_eLst, v_oLst, v_eCall, v_eFrz, v_sOwn, v_iLst, v_iTpl, v_xNil, v_xDat, v_oLc, slotsX, callR, endF, backA, backX, wipeE, back1, e, h0, enc, encs, pA, pAB]
  by_cases h1 : v = 1
  · refine ⟨y, .seq [.star pA, .star pAB, pB], ?_, known_of (by decide +kernel)⟩
    simp [b_law_pattern, v_sSeq, v_for_nil, v_for_cons, v_sFor, v_sAsg, v_gNm, v_gTu, v_gNo, v_gCo, v_sRet, v_sExp, v_sIf, v_sNil, v_sRaise, v_sBrk, v_fnD, v_eC, v_eVar, v_wVar, v_eOp, v_eUn, v_asB, v_bAnd, v_bOr, v_bNot, v_eIf, v_eAnd, v_eOr, v_eNot, v_bYes, v_aNil, v_aCons, v_eTup, v_eLst, v_oLst, v_eCall, v_eFrz, v_sOwn, v_iLst, v_iTpl, v_xNil, v_xDat, v_oLc, slotsX, callR, endF, backA, backX, wipeE, back1, e, h1, enc, encs, pA, pAB, pB]
  by_cases h2 : v = 2
  · refine ⟨y, .seq [.star pAB, .star pA, .star pAB], ?_, known_of (by decide +kernel)⟩
    simp [b_law_pattern, v_sSeq, v_for_nil, v_for_cons, v_sFor, v_sAsg, v_gNm, v_gTu, v_gNo, v_gCo, v_sRet, v_sExp, v_sIf, v_sNil, v_sRaise, v_sBrk, v_fnD, v_eC, v_eVar, v_wVar, v_eOp, v_eUn, v_asB, v_bAnd, v_bOr, v_bNot, v_eIf, v_eAnd, v_eOr, v_eNot, v_bYes, v_aNil, v_aCons, v_eTup, v_eLst, v_oLst, v_eCall, v_eFrz, v_sOwn, v_iLst, v_iTpl, v_xNil, v_xDat, v_oLc, slotsX, callR, endF, backA, backX, wipeE, back1, e, h2, enc, encs, pA, pAB, pB]
  by_cases h3 : v = 3
  · refine ⟨y, .star (.seq [.opt pA, pAB]), ?_, known_of (by decide +kernel)⟩
    simp [b_law_pattern, v_sSeq, v_for_nil, v_for_cons, v_sFor, v_sAsg, v_gNm, v_gTu, v_gNo, v_gCo, v_sRet, v_sExp, v_sIf, v_sNil, v_sRaise, v_sBrk, v_fnD, v_eC, v_eVar, v_wVar, v_eOp, v_eUn, v_asB, v_bAnd, v_bOr, v_bNot, v_eIf, v_eAnd, v_eOr, v_eNot, v_bYes, v_aNil, v_aCons, v_eTup, v_eLst, v_oLst, v_eCall, v_eFrz, v_sOwn, v_iLst, v_iTpl, v_xNil, v_xDat, v_oLc, slotsX, callR, endF, backA, backX, wipeE, back1, e, h3, enc, encs, pA, pAB, pB]
  by_cases h4 : v = 4
  · refine ⟨y, .seq [.alt [.opt pA, .opt pAB], .star (.seq [pA, pAB])], ?_, known_of (by decide +kernel)⟩
    simp [b_law_pattern, v_sSeq, v_for_nil, v_for_cons, v_sFor, v_sAsg, v_gNm, v_gTu, v_gNo, v_gCo, v_sRet, v_sExp, v_sIf, v_sNil, v_sRaise, v_sBrk, v_fnD, v_eC, v_eVar, v_wVar, v_eOp, v_eUn, v_asB, v_bAnd, v_bOr, v_bNot, v_eIf, v_eAnd, v_eOr, v_eNot, v_bYes, v_aNil, v_aCons, v_eTup, v_eLst, v_oLst, v_eCall, v_eFrz, v_sOwn, v_iLst, v_iTpl, v_xNil, v_xDat, v_oLc, slotsX, callR, endF, backA, backX, wipeE, back1, e, h4, enc, encs, pA, pAB, pB]
  by_cases h5 : v = 5
  · refine ⟨y, .star (.seq [.alt [.opt pB, .opt pC], pA]), ?_, known_of (by decide +kernel)⟩
    simp [b_law_pattern, v_sSeq, v_for_nil, v_for_cons, v_sFor, v_sAsg, v_gNm, v_gTu, v_gNo, v_gCo, v_sRet, v_sExp, v_sIf, v_sNil, v_sRaise, v_sBrk, v_fnD, v_eC, v_eVar, v_wVar, v_eOp, v_eUn, v_asB, v_bAnd, v_bOr, v_bNot, v_eIf, v_eAnd, v_eOr, v_eNot, v_bYes, v_aNil, v_aCons, v_eTup, v_eLst, v_oLst, v_eCall, v_eFrz, v_sOwn, v_iLst, v_iTpl, v_xNil, v_xDat, v_oLc, slotsX, callR, endF, backA, backX, wipeE, back1, e, h5, enc, encs, pA, pB, pC]
  by_cases h6 : v = 6
  · refine ⟨y, .seq [.star pA, .star pA, pB, .seq [.star pA, .star pAB]], ?_, known_of (by decide +kernel)⟩
    simp [b_law_pattern, v_sSeq, v_for_nil, v_for_cons, v_sFor, v_sAsg, v_gNm, v_gTu, v_gNo, v_gCo, v_sRet, v_sExp, v_sIf, v_sNil, v_sRaise, v_sBrk, v_fnD, v_eC, v_eVar, v_wVar, v_eOp, v_eUn, v_asB, v_bAnd, v_bOr, v_bNot, v_eIf, v_eAnd, v_eOr, v_eNot, v_bYes, v_aNil, v_aCons, v_eTup, v_eLst, v_oLst, v_eCall, v_eFrz, v_sOwn, v_iLst, v_iTpl, v_xNil, v_xDat, v_oLc, slotsX, callR, endF, backA, backX, wipeE, back1, e, h6, enc, encs, pA, pAB, pB]
  · obtain ⟨z, p, ed, hp⟩ := draw_ok 20 3 6 3 6 y rfl rfl (by decide) (by decide) (by decide) (by decide)
    have hz := hp.sz
    have he := hp.se
    have hb : big 3 6 ≤ 14 := by decide
    refine ⟨z, p, ?_, ⟨hp.wf, hp.st, by omega, by omega, by have := hp.lg.ma; have := hp.lg.mb; have := lgT_36; omega, by have := hp.lg.fa; have := hp.lg.fb; have := lgT_36f; omega, by have := hp.lg.la; have := hp.lg.lb; have := hp.lg.fa; have := hp.lg.fb; have := lgT_36s; omega, by have hb := drp_bd hp.dr; have := hb.s; have := hb.fa; have := hb.fb; have := hb.ma; have := hb.mb; have := T7_36; omega⟩⟩
    have e2 : ∀ tl, eFn 0 3 (f_law_draw 20) (xOwn 0 (xDat (eC (.int 3)) (xDat (eC (.int 6)) xNil))) (.lent (dc y) :: tl) = .ok (enc p) (.lent (dc z) :: tl) := fun tl => call3 rfl rfl ed
    simp [b_law_pattern, v_sSeq, v_for_nil, v_for_cons, v_sFor, v_sAsg, v_gNm, v_gTu, v_gNo, v_gCo, v_sRet, v_sExp, v_sIf, v_sNil, v_sRaise, v_sBrk, v_fnD, v_eC, v_eVar, v_wVar, v_eOp, v_eUn, v_asB, v_bAnd, v_bOr, v_bNot, v_eIf, v_eAnd, v_eOr, v_eNot, v_bYes, v_aNil, v_aCons, v_eTup, v_eLst, v_oLst, v_eCall, v_eFrz, v_sOwn, v_iLst, v_iTpl, v_xNil, v_xDat, v_oLc, slotsX, callR, endF, backA, backX, wipeE, back1, e, h0, h1, h2, h3, h4, h5, h6, e2]
theorem rounds_true {body : DL.Env → Fl} {n id : Nat} {cz : Nat → Int} (h : ∀ c : Int, ∃ e, body ((List.replicate n .emp).set id (.own (.ol [.int c, .int 0]))) = .nx e ∧ e.length = n) : ∀ r k : Nat, roundsD body n id cz r k = .nx (List.replicate n .emp)
  | 0, _ => rfl
  | r + 1, k => by
    obtain ⟨e, h1, h2⟩ := h (cz k)
    rw [roundsD, h1]
    simp only [h2, if_true]
    exact rounds_true h r (k + 1)
theorem sRounds_true {body : DL.Env → Fl} {hi : Int} {n id : Nat} {ns : List Int} (hl : ns.length ≤ 63) (hid : id < n + 1) (h : ∀ c : Int, ∃ e, body ((List.replicate (n + 1) .emp).set id (.own (.ol [.int c, .int 0]))) = .nx e ∧ e.length = n + 1) :
    sRounds 0 id hi czS cntS body (.dat (.scr ns) :: List.replicate n .emp) = .nx (List.replicate (n + 1) .emp) := by
  unfold sRounds
  simp only [List.getElem?_cons_zero, List.length_cons, List.length_replicate]
  rw [if_pos ⟨hl, hid⟩]
  exact rounds_true h _ _
@[simp] theorem isnD_bl (a b : Bool) : isnD (.bl a) (.bl b) = some (.bl (!decide (a = b))) := rfl
theorem lets_ok {s : Str} (h : lets.elem s = true) : PyData.canLay0 (.str s) = true := by
  have key : ∀ s ∈ lets, PyData.canLay0 (.str s) = true := by decide +kernel
  exact key s (List.elem_iff.mp h)
theorem sh_strs {ss : List Str} (h : ∀ s ∈ ss, lets.elem s = true) : (D.tup (ss.map .str)).sh = true ∧ (D.lst (ss.map .str)).sh = true := by
  have a : PyData.canLayAll0 (ss.map (D.toP ∘ D.str)) = true := by
    induction ss with
    | nil => simp [PyData.canLayAll0]
    | cons x r ih =>
      rw [List.map_cons, PyData.canLayAll0, ih fun s hs => h s (List.mem_cons_of_mem _ hs)]
      have := lets_ok (h x List.mem_cons_self)
      simp [D.toP, this]
  have b : PyData.depthAll (ss.map (D.toP ∘ D.str)) = 0 := by
    clear h a
    induction ss with
    | nil => simp [PyData.depthAll]
    | cons x r ih => rw [List.map_cons, PyData.depthAll, ih]; simp [D.toP, PyData.depth]
  constructor
  · unfold D.sh SeqAt.shaped
    rw [D.toP, toPs_map, List.map_map]
    simp [PyData.canLay0, a, PyData.depth, b]
  · unfold D.sh SeqAt.shaped
    rw [D.toP, toPs_map, List.map_map]
    simp [PyData.canLay0, a, PyData.depth, b]
theorem eqvAll_strs : ∀ ss : List Str, PyData.eqvAll (ss.map (D.toP ∘ D.str)) (ss.map (D.toP ∘ D.str)) = true
  | [] => by simp [PyData.eqvAll]
  | s :: r => by rw [List.map_cons, PyData.eqvAll, eqvAll_strs r]; simp [D.toP, PyData.eqv]
theorem ne_strs {ss : List Str} (h : ∀ s ∈ ss, lets.elem s = true) : neD (.tup (ss.map .str)) (.tup (ss.map .str)) = some (.bl false) := by
  unfold neD
  rw [(sh_strs h).1]
  show some (D.bl (!D.eqv _ _)) = _
  unfold D.eqv
  rw [D.toP, toPs_map, List.map_map, PyData.eqv, eqvAll_strs]
  rfl
mutual
theorem sets_lets : ∀ p : Pat, p.wf = true → ∀ s ∈ p.sets, lets.elem s = true
  | .set t, h, s, hs => by
    rw [Pat.wf] at h
    rw [Pat.sets] at hs
    rw [List.mem_singleton.mp hs]; exact h
  | .seq ps, h, s, hs => by
    rw [Pat.wf] at h
    rw [Pat.sets] at hs
    simp only [Bool.and_eq_true] at h
    exact sets_letsA ps h.2 s hs
  | .alt ps, h, s, hs => by
    rw [Pat.wf] at h
    rw [Pat.sets] at hs
    simp only [Bool.and_eq_true] at h
    exact sets_letsA ps h.2 s hs
  | .opt p, h, s, hs => by
    rw [Pat.wf] at h
    rw [Pat.sets] at hs
    exact sets_lets p h s hs
  | .star p, h, s, hs => by
    rw [Pat.wf] at h
    rw [Pat.sets] at hs
    exact sets_lets p h s hs
theorem sets_letsA : ∀ ps : List Pat, wfAll ps = true → ∀ s ∈ setsAll ps, lets.elem s = true
  | [], _, s, hs => by rw [setsAll] at hs; cases hs
  | p :: r, h, s, hs => by
    rw [wfAll] at h
    rw [setsAll] at hs
    simp only [Bool.and_eq_true] at h
    rcases List.mem_append.mp hs with z | z
    · exact sets_lets p h.1 s z
    · exact sets_letsA r h.2 s z
end
section
variable {φ : Fn} {m1 : M D} {o o' : Own} {d : D} {a0 : Slot} {tl : DL.Env}
theorem call1o (h : φ [.lent o] = .rt d [.lent o']) : eFn 1 1 φ (xOwn 1 xNil) (a0 :: .own o :: tl) = .ok d (a0 :: .own o' :: tl) := by
  simp [v_sSeq, v_for_nil, v_for_cons, v_sFor, v_sAsg, v_gNm, v_gTu, v_gNo, v_gCo, v_sRet, v_sExp, v_sIf, v_sNil, v_sRaise, v_sBrk, v_fnD, v_eC, v_eVar, v_wVar, v_eOp, v_eUn, v_asB, v_bAnd, v_bOr, v_bNot, v_eIf, v_eAnd, v_eOr, v_eNot, v_bYes, v_aNil, v_aCons, v_eTup, v_eLst, v_oLst, v_eCall, v_eFrz, v_sOwn, v_iLst, v_iTpl, v_xNil, v_xDat, v_runX, v_eFn, v_oLc, slotsX, callR, endF, backA, backX, wipeE, back1, xOwn, Slot.ow, Slot.re, h]
end
theorem v_eIdx (b : Bool) (m : M D) (env : DL.Env) : eIdx b m env = (m env).bind fun d e => (match d with | .lst ds => lift (((blsD ds).bind (idxB b)).map fun j => .int (j : Nat)) e | _ => .bad) := rfl
theorem s7 : 7 ≤ sizeLine := Nat.le_trans (by decide) sizeLine_ge
theorem s10 : 10 ≤ sizeLine := Nat.le_trans (by decide) sizeLine_ge
theorem term_pure {c : Str} (hc : c ∈ exNames) (a : Addr) : ∃ e', b_law_term a c (.dat (.raw (.ref a)) :: List.replicate 3 .emp) = .rt (errD c) e' := by
  have key : ∀ (b : Bool) (r : DL.Env), eIsE a b (eVar 0) (.dat (.raw (.ref a)) :: r) = .ok (.bl b) (.dat (.raw (.ref a)) :: r) := fun b r => by
    show (if isRef a (.ref a) = true then _ else _) = _
    rw [if_pos isRef_self]
  unfold exNames at hc
  simp only [List.mem_cons, List.not_mem_nil, or_false] at hc
  rcases hc with h | h | h | h | h | h | h | h | h | h
  · have e0 : decide (c = "BadPattern") = true := by rw [h]; kernel_rfl
    have e1 : decide (c = "BadText") = false := by rw [h]; kernel_rfl
    have e2 : decide (c = "BadWord") = false := by rw [h]; kernel_rfl
    have e3 : decide (c = "BadPosition") = false := by rw [h]; kernel_rfl
    have e4 : decide (c = "BadLength") = false := by rw [h]; kernel_rfl
    have e5 : decide (c = "BadDegree") = false := by rw [h]; kernel_rfl
    have e6 : decide (c = "BadBudget") = false := by rw [h]; kernel_rfl
    have e7 : decide (c = "BadSyntax") = false := by rw [h]; kernel_rfl
    have e8 : decide (c = "TooMany") = false := by rw [h]; kernel_rfl
    have e9 : decide (c = "NothingToUndo") = false := by rw [h]; kernel_rfl
    refine ⟨[.dat (.raw (.ref a)), .dat (.lst [.bl true, .bl false, .bl false, .bl false, .bl false, .bl false, .bl false, .bl false, .bl false, .bl false]), .dat (.lst (exNames.map .str)), .emp], ?_⟩
    unfold b_law_term errD
    rw [e0, e1, e2, e3, e4, e5, e6, e7, e8, e9, h]
    simp [v_sSeq, v_for_nil, v_for_cons, v_sFor, v_sAsg, v_gNm, v_gTu, v_gNo, v_gCo, v_sRet, v_sExp, v_sIf, v_sNil, v_sRaise, v_sBrk, v_fnD, v_eC, v_eVar, v_wVar, v_eOp, v_eUn, v_asB, v_bAnd, v_bOr, v_bNot, v_eIf, v_eAnd, v_eOr, v_eNot, v_bYes, v_aNil, v_aCons, v_eTup, v_eLst, v_oLst, v_eCall, v_eFrz, v_sOwn, v_iLst, v_iTpl, v_xNil, v_xDat, v_runX, v_eFn, v_oLc, slotsX, callR, endF, backA, backX, wipeE, back1, key, s7, s10, v_comp_cons, v_comp_nil, v_eIdx, intD, sumD, intsD, blsD, idxB, exNames, L2.atI, L2.ixN]
  · have e0 : decide (c = "BadPattern") = false := by rw [h]; kernel_rfl
    have e1 : decide (c = "BadText") = true := by rw [h]; kernel_rfl
    have e2 : decide (c = "BadWord") = false := by rw [h]; kernel_rfl
    have e3 : decide (c = "BadPosition") = false := by rw [h]; kernel_rfl
    have e4 : decide (c = "BadLength") = false := by rw [h]; kernel_rfl
    have e5 : decide (c = "BadDegree") = false := by rw [h]; kernel_rfl
    have e6 : decide (c = "BadBudget") = false := by rw [h]; kernel_rfl
    have e7 : decide (c = "BadSyntax") = false := by rw [h]; kernel_rfl
    have e8 : decide (c = "TooMany") = false := by rw [h]; kernel_rfl
    have e9 : decide (c = "NothingToUndo") = false := by rw [h]; kernel_rfl
    refine ⟨[.dat (.raw (.ref a)), .dat (.lst [.bl false, .bl true, .bl false, .bl false, .bl false, .bl false, .bl false, .bl false, .bl false, .bl false]), .dat (.lst (exNames.map .str)), .emp], ?_⟩
    unfold b_law_term errD
    rw [e0, e1, e2, e3, e4, e5, e6, e7, e8, e9, h]
    simp [v_sSeq, v_for_nil, v_for_cons, v_sFor, v_sAsg, v_gNm, v_gTu, v_gNo, v_gCo, v_sRet, v_sExp, v_sIf, v_sNil, v_sRaise, v_sBrk, v_fnD, v_eC, v_eVar, v_wVar, v_eOp, v_eUn, v_asB, v_bAnd, v_bOr, v_bNot, v_eIf, v_eAnd, v_eOr, v_eNot, v_bYes, v_aNil, v_aCons, v_eTup, v_eLst, v_oLst, v_eCall, v_eFrz, v_sOwn, v_iLst, v_iTpl, v_xNil, v_xDat, v_runX, v_eFn, v_oLc, slotsX, callR, endF, backA, backX, wipeE, back1, key, s7, s10, v_comp_cons, v_comp_nil, v_eIdx, intD, sumD, intsD, blsD, idxB, exNames, L2.atI, L2.ixN]
  · have e0 : decide (c = "BadPattern") = false := by rw [h]; kernel_rfl
    have e1 : decide (c = "BadText") = false := by rw [h]; kernel_rfl
    have e2 : decide (c = "BadWord") = true := by rw [h]; kernel_rfl
    have e3 : decide (c = "BadPosition") = false := by rw [h]; kernel_rfl
    have e4 : decide (c = "BadLength") = false := by rw [h]; kernel_rfl
    have e5 : decide (c = "BadDegree") = false := by rw [h]; kernel_rfl
    have e6 : decide (c = "BadBudget") = false := by rw [h]; kernel_rfl
    have e7 : decide (c = "BadSyntax") = false := by rw [h]; kernel_rfl
    have e8 : decide (c = "TooMany") = false := by rw [h]; kernel_rfl
    have e9 : decide (c = "NothingToUndo") = false := by rw [h]; kernel_rfl
    refine ⟨[.dat (.raw (.ref a)), .dat (.lst [.bl false, .bl false, .bl true, .bl false, .bl false, .bl false, .bl false, .bl false, .bl false, .bl false]), .dat (.lst (exNames.map .str)), .emp], ?_⟩
    unfold b_law_term errD
    rw [e0, e1, e2, e3, e4, e5, e6, e7, e8, e9, h]
    simp [v_sSeq, v_for_nil, v_for_cons, v_sFor, v_sAsg, v_gNm, v_gTu, v_gNo, v_gCo, v_sRet, v_sExp, v_sIf, v_sNil, v_sRaise, v_sBrk, v_fnD, v_eC, v_eVar, v_wVar, v_eOp, v_eUn, v_asB, v_bAnd, v_bOr, v_bNot, v_eIf, v_eAnd, v_eOr, v_eNot, v_bYes, v_aNil, v_aCons, v_eTup, v_eLst, v_oLst, v_eCall, v_eFrz, v_sOwn, v_iLst, v_iTpl, v_xNil, v_xDat, v_runX, v_eFn, v_oLc, slotsX, callR, endF, backA, backX, wipeE, back1, key, s7, s10, v_comp_cons, v_comp_nil, v_eIdx, intD, sumD, intsD, blsD, idxB, exNames, L2.atI, L2.ixN]
  · have e0 : decide (c = "BadPattern") = false := by rw [h]; kernel_rfl
    have e1 : decide (c = "BadText") = false := by rw [h]; kernel_rfl
    have e2 : decide (c = "BadWord") = false := by rw [h]; kernel_rfl
    have e3 : decide (c = "BadPosition") = true := by rw [h]; kernel_rfl
    have e4 : decide (c = "BadLength") = false := by rw [h]; kernel_rfl
    have e5 : decide (c = "BadDegree") = false := by rw [h]; kernel_rfl
    have e6 : decide (c = "BadBudget") = false := by rw [h]; kernel_rfl
    have e7 : decide (c = "BadSyntax") = false := by rw [h]; kernel_rfl
    have e8 : decide (c = "TooMany") = false := by rw [h]; kernel_rfl
    have e9 : decide (c = "NothingToUndo") = false := by rw [h]; kernel_rfl
    refine ⟨[.dat (.raw (.ref a)), .dat (.lst [.bl false, .bl false, .bl false, .bl true, .bl false, .bl false, .bl false, .bl false, .bl false, .bl false]), .dat (.lst (exNames.map .str)), .emp], ?_⟩
    unfold b_law_term errD
    rw [e0, e1, e2, e3, e4, e5, e6, e7, e8, e9, h]
    simp [v_sSeq, v_for_nil, v_for_cons, v_sFor, v_sAsg, v_gNm, v_gTu, v_gNo, v_gCo, v_sRet, v_sExp, v_sIf, v_sNil, v_sRaise, v_sBrk, v_fnD, v_eC, v_eVar, v_wVar, v_eOp, v_eUn, v_asB, v_bAnd, v_bOr, v_bNot, v_eIf, v_eAnd, v_eOr, v_eNot, v_bYes, v_aNil, v_aCons, v_eTup, v_eLst, v_oLst, v_eCall, v_eFrz, v_sOwn, v_iLst, v_iTpl, v_xNil, v_xDat, v_runX, v_eFn, v_oLc, slotsX, callR, endF, backA, backX, wipeE, back1, key, s7, s10, v_comp_cons, v_comp_nil, v_eIdx, intD, sumD, intsD, blsD, idxB, exNames, L2.atI, L2.ixN]
  · have e0 : decide (c = "BadPattern") = false := by rw [h]; kernel_rfl
    have e1 : decide (c = "BadText") = false := by rw [h]; kernel_rfl
    have e2 : decide (c = "BadWord") = false := by rw [h]; kernel_rfl
    have e3 : decide (c = "BadPosition") = false := by rw [h]; kernel_rfl
    have e4 : decide (c = "BadLength") = true := by rw [h]; kernel_rfl
    have e5 : decide (c = "BadDegree") = false := by rw [h]; kernel_rfl
    have e6 : decide (c = "BadBudget") = false := by rw [h]; kernel_rfl
    have e7 : decide (c = "BadSyntax") = false := by rw [h]; kernel_rfl
    have e8 : decide (c = "TooMany") = false := by rw [h]; kernel_rfl
    have e9 : decide (c = "NothingToUndo") = false := by rw [h]; kernel_rfl
    refine ⟨[.dat (.raw (.ref a)), .dat (.lst [.bl false, .bl false, .bl false, .bl false, .bl true, .bl false, .bl false, .bl false, .bl false, .bl false]), .dat (.lst (exNames.map .str)), .emp], ?_⟩
    unfold b_law_term errD
    rw [e0, e1, e2, e3, e4, e5, e6, e7, e8, e9, h]
    simp [v_sSeq, v_for_nil, v_for_cons, v_sFor, v_sAsg, v_gNm, v_gTu, v_gNo, v_gCo, v_sRet, v_sExp, v_sIf, v_sNil, v_sRaise, v_sBrk, v_fnD, v_eC, v_eVar, v_wVar, v_eOp, v_eUn, v_asB, v_bAnd, v_bOr, v_bNot, v_eIf, v_eAnd, v_eOr, v_eNot, v_bYes, v_aNil, v_aCons, v_eTup, v_eLst, v_oLst, v_eCall, v_eFrz, v_sOwn, v_iLst, v_iTpl, v_xNil, v_xDat, v_runX, v_eFn, v_oLc, slotsX, callR, endF, backA, backX, wipeE, back1, key, s7, s10, v_comp_cons, v_comp_nil, v_eIdx, intD, sumD, intsD, blsD, idxB, exNames, L2.atI, L2.ixN]
  · have e0 : decide (c = "BadPattern") = false := by rw [h]; kernel_rfl
    have e1 : decide (c = "BadText") = false := by rw [h]; kernel_rfl
    have e2 : decide (c = "BadWord") = false := by rw [h]; kernel_rfl
    have e3 : decide (c = "BadPosition") = false := by rw [h]; kernel_rfl
    have e4 : decide (c = "BadLength") = false := by rw [h]; kernel_rfl
    have e5 : decide (c = "BadDegree") = true := by rw [h]; kernel_rfl
    have e6 : decide (c = "BadBudget") = false := by rw [h]; kernel_rfl
    have e7 : decide (c = "BadSyntax") = false := by rw [h]; kernel_rfl
    have e8 : decide (c = "TooMany") = false := by rw [h]; kernel_rfl
    have e9 : decide (c = "NothingToUndo") = false := by rw [h]; kernel_rfl
    refine ⟨[.dat (.raw (.ref a)), .dat (.lst [.bl false, .bl false, .bl false, .bl false, .bl false, .bl true, .bl false, .bl false, .bl false, .bl false]), .dat (.lst (exNames.map .str)), .emp], ?_⟩
    unfold b_law_term errD
    rw [e0, e1, e2, e3, e4, e5, e6, e7, e8, e9, h]
    simp [v_sSeq, v_for_nil, v_for_cons, v_sFor, v_sAsg, v_gNm, v_gTu, v_gNo, v_gCo, v_sRet, v_sExp, v_sIf, v_sNil, v_sRaise, v_sBrk, v_fnD, v_eC, v_eVar, v_wVar, v_eOp, v_eUn, v_asB, v_bAnd, v_bOr, v_bNot, v_eIf, v_eAnd, v_eOr, v_eNot, v_bYes, v_aNil, v_aCons, v_eTup, v_eLst, v_oLst, v_eCall, v_eFrz, v_sOwn, v_iLst, v_iTpl, v_xNil, v_xDat, v_runX, v_eFn, v_oLc, slotsX, callR, endF, backA, backX, wipeE, back1, key, s7, s10, v_comp_cons, v_comp_nil, v_eIdx, intD, sumD, intsD, blsD, idxB, exNames, L2.atI, L2.ixN]
  · have e0 : decide (c = "BadPattern") = false := by rw [h]; kernel_rfl
    have e1 : decide (c = "BadText") = false := by rw [h]; kernel_rfl
    have e2 : decide (c = "BadWord") = false := by rw [h]; kernel_rfl
    have e3 : decide (c = "BadPosition") = false := by rw [h]; kernel_rfl
    have e4 : decide (c = "BadLength") = false := by rw [h]; kernel_rfl
    have e5 : decide (c = "BadDegree") = false := by rw [h]; kernel_rfl
    have e6 : decide (c = "BadBudget") = true := by rw [h]; kernel_rfl
    have e7 : decide (c = "BadSyntax") = false := by rw [h]; kernel_rfl
    have e8 : decide (c = "TooMany") = false := by rw [h]; kernel_rfl
    have e9 : decide (c = "NothingToUndo") = false := by rw [h]; kernel_rfl
    refine ⟨[.dat (.raw (.ref a)), .dat (.lst [.bl false, .bl false, .bl false, .bl false, .bl false, .bl false, .bl true, .bl false, .bl false, .bl false]), .dat (.lst (exNames.map .str)), .emp], ?_⟩
    unfold b_law_term errD
    rw [e0, e1, e2, e3, e4, e5, e6, e7, e8, e9, h]
    simp [v_sSeq, v_for_nil, v_for_cons, v_sFor, v_sAsg, v_gNm, v_gTu, v_gNo, v_gCo, v_sRet, v_sExp, v_sIf, v_sNil, v_sRaise, v_sBrk, v_fnD, v_eC, v_eVar, v_wVar, v_eOp, v_eUn, v_asB, v_bAnd, v_bOr, v_bNot, v_eIf, v_eAnd, v_eOr, v_eNot, v_bYes, v_aNil, v_aCons, v_eTup, v_eLst, v_oLst, v_eCall, v_eFrz, v_sOwn, v_iLst, v_iTpl, v_xNil, v_xDat, v_runX, v_eFn, v_oLc, slotsX, callR, endF, backA, backX, wipeE, back1, key, s7, s10, v_comp_cons, v_comp_nil, v_eIdx, intD, sumD, intsD, blsD, idxB, exNames, L2.atI, L2.ixN]
  · have e0 : decide (c = "BadPattern") = false := by rw [h]; kernel_rfl
    have e1 : decide (c = "BadText") = false := by rw [h]; kernel_rfl
    have e2 : decide (c = "BadWord") = false := by rw [h]; kernel_rfl
    have e3 : decide (c = "BadPosition") = false := by rw [h]; kernel_rfl
    have e4 : decide (c = "BadLength") = false := by rw [h]; kernel_rfl
    have e5 : decide (c = "BadDegree") = false := by rw [h]; kernel_rfl
    have e6 : decide (c = "BadBudget") = false := by rw [h]; kernel_rfl
    have e7 : decide (c = "BadSyntax") = true := by rw [h]; kernel_rfl
    have e8 : decide (c = "TooMany") = false := by rw [h]; kernel_rfl
    have e9 : decide (c = "NothingToUndo") = false := by rw [h]; kernel_rfl
    refine ⟨[.dat (.raw (.ref a)), .dat (.lst [.bl false, .bl false, .bl false, .bl false, .bl false, .bl false, .bl false, .bl true, .bl false, .bl false]), .dat (.lst (exNames.map .str)), .emp], ?_⟩
    unfold b_law_term errD
    rw [e0, e1, e2, e3, e4, e5, e6, e7, e8, e9, h]
    simp [v_sSeq, v_for_nil, v_for_cons, v_sFor, v_sAsg, v_gNm, v_gTu, v_gNo, v_gCo, v_sRet, v_sExp, v_sIf, v_sNil, v_sRaise, v_sBrk, v_fnD, v_eC, v_eVar, v_wVar, v_eOp, v_eUn, v_asB, v_bAnd, v_bOr, v_bNot, v_eIf, v_eAnd, v_eOr, v_eNot, v_bYes, v_aNil, v_aCons, v_eTup, v_eLst, v_oLst, v_eCall, v_eFrz, v_sOwn, v_iLst, v_iTpl, v_xNil, v_xDat, v_runX, v_eFn, v_oLc, slotsX, callR, endF, backA, backX, wipeE, back1, key, s7, s10, v_comp_cons, v_comp_nil, v_eIdx, intD, sumD, intsD, blsD, idxB, exNames, L2.atI, L2.ixN]
  · have e0 : decide (c = "BadPattern") = false := by rw [h]; kernel_rfl
    have e1 : decide (c = "BadText") = false := by rw [h]; kernel_rfl
    have e2 : decide (c = "BadWord") = false := by rw [h]; kernel_rfl
    have e3 : decide (c = "BadPosition") = false := by rw [h]; kernel_rfl
    have e4 : decide (c = "BadLength") = false := by rw [h]; kernel_rfl
    have e5 : decide (c = "BadDegree") = false := by rw [h]; kernel_rfl
    have e6 : decide (c = "BadBudget") = false := by rw [h]; kernel_rfl
    have e7 : decide (c = "BadSyntax") = false := by rw [h]; kernel_rfl
    have e8 : decide (c = "TooMany") = true := by rw [h]; kernel_rfl
    have e9 : decide (c = "NothingToUndo") = false := by rw [h]; kernel_rfl
    refine ⟨[.dat (.raw (.ref a)), .dat (.lst [.bl false, .bl false, .bl false, .bl false, .bl false, .bl false, .bl false, .bl false, .bl true, .bl false]), .dat (.lst (exNames.map .str)), .emp], ?_⟩
    unfold b_law_term errD
    rw [e0, e1, e2, e3, e4, e5, e6, e7, e8, e9, h]
    simp [v_sSeq, v_for_nil, v_for_cons, v_sFor, v_sAsg, v_gNm, v_gTu, v_gNo, v_gCo, v_sRet, v_sExp, v_sIf, v_sNil, v_sRaise, v_sBrk, v_fnD, v_eC, v_eVar, v_wVar, v_eOp, v_eUn, v_asB, v_bAnd, v_bOr, v_bNot, v_eIf, v_eAnd, v_eOr, v_eNot, v_bYes, v_aNil, v_aCons, v_eTup, v_eLst, v_oLst, v_eCall, v_eFrz, v_sOwn, v_iLst, v_iTpl, v_xNil, v_xDat, v_runX, v_eFn, v_oLc, slotsX, callR, endF, backA, backX, wipeE, back1, key, s7, s10, v_comp_cons, v_comp_nil, v_eIdx, intD, sumD, intsD, blsD, idxB, exNames, L2.atI, L2.ixN]
  · have e0 : decide (c = "BadPattern") = false := by rw [h]; kernel_rfl
    have e1 : decide (c = "BadText") = false := by rw [h]; kernel_rfl
    have e2 : decide (c = "BadWord") = false := by rw [h]; kernel_rfl
    have e3 : decide (c = "BadPosition") = false := by rw [h]; kernel_rfl
    have e4 : decide (c = "BadLength") = false := by rw [h]; kernel_rfl
    have e5 : decide (c = "BadDegree") = false := by rw [h]; kernel_rfl
    have e6 : decide (c = "BadBudget") = false := by rw [h]; kernel_rfl
    have e7 : decide (c = "BadSyntax") = false := by rw [h]; kernel_rfl
    have e8 : decide (c = "TooMany") = false := by rw [h]; kernel_rfl
    have e9 : decide (c = "NothingToUndo") = true := by rw [h]; kernel_rfl
    refine ⟨[.dat (.raw (.ref a)), .dat (.lst [.bl false, .bl false, .bl false, .bl false, .bl false, .bl false, .bl false, .bl false, .bl false, .bl true]), .dat (.lst (exNames.map .str)), .emp], ?_⟩
    unfold b_law_term errD
    rw [e0, e1, e2, e3, e4, e5, e6, e7, e8, e9, h]
    simp [v_sSeq, v_for_nil, v_for_cons, v_sFor, v_sAsg, v_gNm, v_gTu, v_gNo, v_gCo, v_sRet, v_sExp, v_sIf, v_sNil, v_sRaise, v_sBrk, v_fnD, v_eC, v_eVar, v_wVar, v_eOp, v_eUn, v_asB, v_bAnd, v_bOr, v_bNot, v_eIf, v_eAnd, v_eOr, v_eNot, v_bYes, v_aNil, v_aCons, v_eTup, v_eLst, v_oLst, v_eCall, v_eFrz, v_sOwn, v_iLst, v_iTpl, v_xNil, v_xDat, v_runX, v_eFn, v_oLc, slotsX, callR, endF, backA, backX, wipeE, back1, key, s7, s10, v_comp_cons, v_comp_nil, v_eIdx, intD, sumD, intsD, blsD, idxB, exNames, L2.atI, L2.ixN]
end LW
set_option Elab.async false
set_option linter.all false
set_option maxRecDepth 100000
set_option maxHeartbeats 0
namespace LW
open PySem PySem.Spec PyProof.Rows L2 L2H HotX LamX DL
def r_law : DL.Env → Fl := (sSeq (sAsg (eFn 1 1 f_law_pattern (xOwn 1 xNil)) (gNm 2)) (sSeq (sIf (bOr (asB (eOp isnD (eFn 0 1 f_is_pattern (xDat (eVar 2) xNil)) (eC (.bl true)))) (asB (eOp neD (eFn 0 1 f_is_nullable (xDat (eVar 2) xNil)) (eFn 0 1 (f_law_null 20) (xDat (eVar 2) xNil))))) (sRet (eC (.bl false))) sNil) (sSeq (sIf (bOr (asB (eOp neD (eFn 0 1 f_sets (xDat (eVar 2) xNil)) (eCall tupleD (aCons (eFn 0 1 (f_law_letters 20) (xDat (eVar 2) xNil)) aNil)))) (asB (eOp neD (eFn 0 1 f_size (xDat (eVar 2) xNil)) (eFn 0 1 (f_law_size 20) (xDat (eVar 2) xNil))))) (sRet (eC (.bl false))) sNil) (sSeq (sIf (asB (eOp neD (eFn 0 1 f_is_pattern (xDat (eTup (aCons (eC (.str "star")) (aCons (eVar 2) aNil))) xNil)) (eAnd (eNot (eFn 0 1 (f_law_null 20) (xDat (eVar 2) xNil))) (eOp ltD (eFn 0 1 (f_law_size 20) (xDat (eVar 2) xNil)) (eC (.int 16)))))) (sRet (eC (.bl false))) sNil) (sSeq (sIf (asB (eOp isnD (eFn 0 1 f_is_nullable (xDat (eTup (aCons (eC (.str "opt")) (aCons (eVar 2) aNil))) xNil)) (eC (.bl true)))) (sRet (eC (.bl false))) sNil) (sSeq (sIf (asB (eOp neD (eFn 0 1 f_is_pattern (xDat (eTup (aCons (eC (.str "opt")) (aCons (eVar 2) aNil))) xNil)) (eOp ltD (eFn 0 1 (f_law_size 20) (xDat (eVar 2) xNil)) (eC (.int 16))))) (sRet (eC (.bl false))) sNil) (sIf (bNot (asB (eFn 0 0 f_law_patterns_rejected xNil))) (sRet (eC (.bl false))) sNil)))))))
def b_law : DL.Env → Fl := (sSeq (sRounds 0 1 4 czS cntS r_law) (sRet (eC (.bl true))))
def f_law : Fn := fnD 3 b_law
end LW
set_option Elab.async false
set_option linter.all false
set_option maxRecDepth 100000
set_option maxHeartbeats 1000000
namespace LW
open PySem DL
theorem rejected_pure : f_law_patterns_rejected [] = .rt (.bl true) [] := by kernel_rfl
theorem law_pure (ns : List Int) (h : ns.length ≤ 63) : f_law [.dat (.scr ns)] = .rt (.bl true) [.dat (.scr ns)] := by
  have hr : ∀ c : Int, ∃ e, r_law ((List.replicate (2 + 1) .emp).set 1 (.own (.ol [.int c, .int 0]))) = .nx e ∧ e.length = 2 + 1 := fun c => by
    obtain ⟨x', p, e, hp⟩ := pattern_ok (c, 0)
    have ec := call1o (a0 := .emp) (tl := [.emp]) e
    have hs := hp.sz
    have g1 := is_pattern_ok hp.wf (by omega)
    have g2 := is_nullable_ok hp.wf hp.good
    have g3 := lnull_ok 20 p (by omega) (by omega)
    have g4 := sets_pub hp.wf hp.good
    have g5 := llets_ok 20 p (by omega) (by omega)
    have g6 := size_pub hp.wf hp.good
    have g7 := lsize_ok 20 p (by omega) (by omega)
    have g8 := ne_strs (sets_lets p hp.wf)
    have w1 : (Pat.star p).wf = true := by rw [Pat.wf]; exact hp.wf
    have w2 : (Pat.opt p).wf = true := by rw [Pat.wf]; exact hp.wf
    have g9 := is_pattern_ok w1 (by rw [Pat.size]; omega)
    have g10 := is_pattern_ok w2 (by rw [Pat.size]; omega)
    have good2 : (Pat.opt p).good = true := by
      unfold Pat.good
      rw [Pat.stars, hp.st, decide_eq_true (show (Pat.opt p).size ≤ 16 by rw [Pat.size]; omega), decide_eq_true (show (Pat.opt p).sets.length ≤ 8 by rw [Pat.sets]; have := hp.se; omega)]
      rfl
    have good1 : (Pat.star p).good = !p.null := by
      unfold Pat.good
      rw [Pat.stars, hp.st, decide_eq_true (show (Pat.star p).size ≤ 16 by rw [Pat.size]; omega), decide_eq_true (show (Pat.star p).sets.length ≤ 8 by rw [Pat.sets]; have := hp.se; omega)]
      simp
    have g11 := is_nullable_ok w2 good2
    have i1 : (p.size : Int) < 16 := by omega
    rw [good1] at g9
    rw [good2] at g10
    rw [null_opt] at g11
    rw [enc_star] at g9
    rw [enc_opt] at g10 g11
    rw [hp.good] at g1
    generalize (p.size : Int) = N at *
    refine ⟨[.emp, .own (dc x'), .dat (enc p)], ?_, rfl⟩
    unfold r_law
    rw [v_sSeq, v_sAsg]
    simp only [List.replicate, List.set_cons_succ, List.set_cons_zero]
    rw [ec]
    cases hn : p.null <;> rw [hn] at g2 g3 g9 <;> simp [v_sSeq, v_for_nil, v_for_cons, v_sFor, v_sAsg, v_gNm, v_gTu, v_gNo, v_gCo, v_sRet, v_sExp, v_sIf, v_sNil, v_sRaise, v_sBrk, v_fnD, v_eC, v_eVar, v_wVar, v_eOp, v_eUn, v_asB, v_bAnd, v_bOr, v_bNot, v_eIf, v_eAnd, v_eOr, v_eNot, v_bYes, v_aNil, v_aCons, v_eTup, v_eLst, v_oLst, v_eCall, v_eFrz, v_sOwn, v_iLst, v_iTpl, v_xNil, v_xDat, v_runX, v_eFn, v_oLc, slotsX, callR, endF, backA, backX, wipeE, back1, g1, g2, g3, g4, g5, g6, g7, g8, g9, g10, g11, i1, rejected_pure]
  rw [f_law, v_fnD, b_law, v_sSeq]
  simp only [List.length_cons, List.length_nil, List.cons_append, List.nil_append]
  rw [sRounds_true (hi := 4) h (by decide) hr]
  simp [v_sSeq, v_for_nil, v_for_cons, v_sFor, v_sAsg, v_gNm, v_gTu, v_gNo, v_gCo, v_sRet, v_sExp, v_sIf, v_sNil, v_sRaise, v_sBrk, v_fnD, v_eC, v_eVar, v_wVar, v_eOp, v_eUn, v_asB, v_bAnd, v_bOr, v_bNot, v_eIf, v_eAnd, v_eOr, v_eNot, v_bYes, v_aNil, v_aCons, v_eTup, v_eLst, v_oLst, v_eCall, v_eFrz, v_sOwn, v_iLst, v_iTpl, v_xNil, v_xDat, v_runX, v_eFn, v_oLc, slotsX, callR, endF, backA, backX, wipeE, back1]
end LW
set_option Elab.async false
set_option linter.all false
set_option maxRecDepth 100000
set_option maxHeartbeats 0
namespace LW
open PySem PySem.Spec PyProof.Rows L2 L2H HotX LamX DL
section
variable {P : Program} {w : World} {mg : Str → Option Value} {base h : Heap} {K : PySem.W.Frag}
theorem sc_law_cell : FnScope ["script", "k"] ["script", "k"] (defScope (top 67)) := ⟨rfl, rfl, rfl, by decide +kernel, rfl, by decide +kernel, by decide +kernel⟩
theorem y_law_cell (X : Fx K h mg base) {f : Addr} : Body P w (tbOf K (tabs K) w) mg base ["script", "k"] "_law_cell" (defScope (top 67)) f 0 (defBody (top 67)) b_law_cell := by
  intro cdv A outer s H E H0 F0 OA V0 hr
  have SC := sc_law_cell
  exact (ds_cons (ds_if (dt_cmp (op_eqD hr.units) ow_eq (dv 0) (de_w (de_lst da_nil)) (nomark _)) (ds_one (ds_ret (de_bin op_mulA od_mul (dv 1) de_int))) ds_nil) (ds_one (ds_ret (de_bin op_addA od_add (de_ix (dv 0) (de_bin op_mod od_mod (dv 1) (de_len (de_w (dv 0)) rfl (He.free_ok X.KX X.G (X.c.fact 0 rfl))))) (de_bin op_mulA od_mul (de_bin op_fdivW od_div (dv 1) (de_len (de_w (dv 0)) rfl (He.free_ok X.KX X.G (X.c.fact 0 rfl)))) de_int)))))
theorem c_law_cell (X : Fx K h mg base) : Cal P w (tbOf K (tabs K) w) mg base 1 "_law_cell" 2 f_law_cell := by
  obtain ⟨fd, F⟩ := X.c.def_ 0 (d := d0) rfl
  have SC := sc_law_cell
  have B : Binds K fd ["script", "k"] [] := F.bindsN fun _ _ _ _ _ _ us hl => match us, hl with | [_, _], _ => rfl
  exact cal_of F SC (He.glo_ok X.KX X.G (X.c.fact 1 rfl)) B (y_law_cell X)
theorem sc_law_drawn : FnScope ["cell", "k", "more"] ["cell", "k"] (defScope (top 68)) := ⟨rfl, rfl, rfl, by decide +kernel, rfl, by decide +kernel, by decide +kernel⟩
theorem y_law_drawn (X : Fx K h mg base) {f : Addr} : Body P w (tbOf K (tabs K) w) mg base ["cell", "k", "more"] "_law_drawn" (defScope (top 68)) f 0 (defBody (top 68)) b_law_drawn := by
  intro cdv A outer s H E H0 F0 OA V0 hr
  have SC := sc_law_drawn
  exact (ds_cons (ds_set (i := 2) SC.nd rfl (by first | exact Or.inl rfl | exact Or.inr rfl) (de_bin op_mod od_mod (de_bin op_addA od_add (de_bin op_mulA od_mul (dv 0) de_int) (de_bin op_mulA od_mul (de_bin op_addA od_add (dv 1) de_int) de_int)) de_int)) (ds_cons (ds_set (i := 2) SC.nd rfl (by first | exact Or.inl rfl | exact Or.inr rfl) (de_bin op_mod od_mod (de_bin op_mulA od_mul (dv 2) (dv 2)) de_int)) (ds_cons (ds_set (i := 2) SC.nd rfl (by first | exact Or.inl rfl | exact Or.inr rfl) (de_bin op_mulA od_mul (de_bin op_mulA od_mul (de_bin op_addA od_add (de_bin op_mod od_mod (dv 2) de_int) de_int) (de_bin op_addA od_add (de_bin op_fdivW od_div (dv 2) de_int) de_int)) (dv 2))) (ds_one (ds_ret (de_bin op_mod od_mod (dv 2) de_int))))))
theorem c_law_drawn (X : Fx K h mg base) : Cal P w (tbOf K (tabs K) w) mg base 1 "_law_drawn" 2 f_law_drawn := by
  obtain ⟨fd, F⟩ := X.c.def_ 1 (d := d1) rfl
  have SC := sc_law_drawn
  have B : Binds K fd ["cell", "k"] [] := F.bindsN fun _ _ _ _ _ _ us hl => match us, hl with | [_, _], _ => rfl
  exact cal_of F SC (He.glo_ok X.KX X.G (X.c.fact 2 rfl)) B (y_law_drawn X)
theorem sc_law_roll : FnScope ["dice", "many", "told"] ["dice", "many"] (defScope (top 69)) := ⟨rfl, rfl, rfl, by decide +kernel, rfl, by decide +kernel, by decide +kernel⟩
theorem y_law_roll (X : Fx K h mg base) {f : Addr} : Body P w (tbOf K (tabs K) w) mg base ["dice", "many", "told"] "_law_roll" (defScope (top 69)) f 1 (defBody (top 69)) b_law_roll := by
  intro cdv A outer s H E H0 F0 OA V0 hr
  have SC := sc_law_roll
  exact (ds_cons (ds_if (dt_cmp op_ge ow_ge (de_ixV 0 (pv 0) de_int) (de_w (de_bin op_pow od_pow de_int de_int)) (nomark _)) (ds_cons (ds_set (i := 2) SC.nd rfl (by first | exact Or.inl rfl | exact Or.inr rfl) (de_bin op_mod od_mod (de_ixV 0 (pv 0) de_int) (dv 1))) (ds_cons (ds_seti (pv 0) de_int (de_bin op_fdivW od_div (de_ixV 0 (pv 0) de_int) (dv 1))) (ds_one (ds_ret (dv 2))))) ds_nil) (ds_cons (ds_seti (pv 0) de_int (de_bin op_addA od_add (de_ixV 0 (pv 0) de_int) de_int)) (ds_one (ds_ret (de_bin op_mod od_mod (de_bin op_fdivW od_div (de_fn (c_law_drawn X) (hr.mono (by decide)) (L2N.takes_of rfl rfl rfl rfl) (dx_dat (de_ixV 0 (pv 0) de_int) (dx_dat (de_ixV 0 (pv 0) de_int) dx_nil))) de_int) (dv 1))))))
theorem c_law_roll (X : Fx K h mg base) : Cal P w (tbOf K (tabs K) w) mg base 2 "_law_roll" 2 f_law_roll := by
  obtain ⟨fd, F⟩ := X.c.def_ 2 (d := d2) rfl
  have SC := sc_law_roll
  have B : Binds K fd ["dice", "many"] [] := F.bindsN fun _ _ _ _ _ _ us hl => match us, hl with | [_, _], _ => rfl
  exact cal_of F SC (He.glo_ok X.KX X.G (X.c.fact 3 rfl)) B (y_law_roll X)
theorem sc_law_null : FnScope ["pattern", "item"] ["pattern"] (defScope (top 73)) := ⟨rfl, rfl, rfl, by decide +kernel, rfl, by decide +kernel, by decide +kernel⟩
theorem y_law_null (X : Fx K h mg base) {f : Addr} {j : Nat} {r : Fn} (R : Cal P w (tbOf K (tabs K) w) mg base (0 + j) "_law_null" 1 r) : Body P w (tbOf K (tabs K) w) mg base ["pattern", "item"] "_law_null" (defScope (top 73)) f (0 + j) (defBody (top 73)) (b_law_null r) := by
  intro cdv A outer s H E H0 F0 OA V0 hr
  have SC := sc_law_null
  exact (ds_cons (ds_if (dt_cmp (op_eqD hr.units) ow_eq (de_ix (dv 0) de_int) (de_w de_str) (nomark _)) (ds_one (ds_ret de_bl)) ds_nil) (ds_cons (ds_if (dt_cmp (op_eqD hr.units) ow_eq (de_ix (dv 0) de_int) (de_w de_str) (nomark _)) (ds_one (ds_ret (de_not (de_cmp (op_inA hr.u65) ow_in de_bl (de_w (de_frz (do_lcT (own := [("item", 1)]) rfl SC.nd (di_tup (de_ix (dv 0) de_int)) (blkOk_by (by kernel_rfl)) (fun _ _ _ _ _ _ _ _ => (dg_name (i := 1) SC.nd rfl (by first | exact Or.inl rfl | exact Or.inr rfl))) (fun _ _ _ _ _ _ _ _ => dts_nil) (fun _ _ _ _ _ _ _ _ => (de_fn R (hr.mono (by omega)) takes0N (dx_dat (dv 1) dx_nil)))))) (by rfl))))) ds_nil) (ds_one (ds_ret (de_if (dt_cmp (op_eqD hr.units) ow_eq (de_ix (dv 0) de_int) (de_w de_str) (nomark _)) (de_cmp (op_inA hr.u65) ow_in de_bl (de_w (de_frz (do_lcT (own := [("item", 1)]) rfl SC.nd (di_tup (de_ix (dv 0) de_int)) (blkOk_by (by kernel_rfl)) (fun _ _ _ _ _ _ _ _ => (dg_name (i := 1) SC.nd rfl (by first | exact Or.inl rfl | exact Or.inr rfl))) (fun _ _ _ _ _ _ _ _ => dts_nil) (fun _ _ _ _ _ _ _ _ => (de_fn R (hr.mono (by omega)) takes0N (dx_dat (dv 1) dx_nil)))))) (by rfl)) de_bl)))))
theorem w_law_null (X : Fx K h mg base) (j : Nat) : Cal P w (tbOf K (tabs K) w) mg base (0 + j) "_law_null" 1 (f_law_null j) := by
  obtain ⟨fd, F⟩ := X.c.def_ 3 (d := d3) rfl
  have SC := sc_law_null
  have B : Binds K fd ["pattern"] [] := F.bindsN fun _ _ _ _ _ _ us hl => match us, hl with | [_], _ => rfl
  induction j with
  | zero => exact cal_no (T := tbOf K (tabs K) w) F (He.glo_ok X.KX X.G (X.c.fact 4 rfl)) B
  | succ j R => exact cal_of F SC (He.glo_ok X.KX X.G (X.c.fact 4 rfl)) B (y_law_null X R)
theorem c_law_null (X : Fx K h mg base) : Cal P w (tbOf K (tabs K) w) mg base 20 "_law_null" 1 (f_law_null 20) := w_law_null X 20
theorem sc_law_draw : FnScope ["dice", "depth", "room", "act", "item", "many", "items", "turn"] ["dice", "depth", "room"] (defScope (top 74)) := ⟨rfl, rfl, rfl, by decide +kernel, rfl, by decide +kernel, by decide +kernel⟩
theorem y_law_draw (X : Fx K h mg base) {f : Addr} {j : Nat} {r : Fn} (R : Cal P w (tbOf K (tabs K) w) mg base (21 + j) "_law_draw" 3 r) : Body P w (tbOf K (tabs K) w) mg base ["dice", "depth", "room", "act", "item", "many", "items", "turn"] "_law_draw" (defScope (top 74)) f (21 + j) (defBody (top 74)) (b_law_draw r) := by
  intro cdv A outer s H E H0 F0 OA V0 hr
  have SC := sc_law_draw
  exact (ds_cons (ds_set (i := 3) SC.nd rfl (by first | exact Or.inl rfl | exact Or.inr rfl) (de_if (PW.pt (dw_and (dt_cmp op_gt ow_gt (dv 1) (de_w de_int) (nomark _)) (dw_and1 (dt_cmp op_gt ow_gt (dv 2) (de_w de_int) (nomark _))))) (de_fn (c_law_roll X) (hr.mono (by omega)) (L2N.takes_of rfl rfl rfl rfl) (dx_own (pv 0) (dx_dat de_int dx_nil))) (de_fn (c_law_roll X) (hr.mono (by omega)) (L2N.takes_of rfl rfl rfl rfl) (dx_own (pv 0) (dx_dat de_int dx_nil))))) (ds_cons (ds_if (PW.pt (dw_or (dt_cmp op_ltA ow_lt (dv 3) (de_w de_int) (nomark _)) (dw_or1 (dt_cmp (op_eqD hr.units) ow_eq (dv 1) (de_w de_int) (nomark _))))) (ds_one (ds_ret (de_tup (da_cons de_str (da_cons (de_ix (de_lst (da_cons de_str (da_cons de_str (da_cons de_str (da_cons de_str (da_cons de_str (da_cons de_str (da_cons de_str da_nil)))))))) (de_fn (c_law_roll X) (hr.mono (by omega)) (L2N.takes_of rfl rfl rfl rfl) (dx_own (pv 0) (dx_dat de_int dx_nil)))) da_nil))))) ds_nil) (ds_cons (ds_if (PW.pt (dw_and (dt_cmp op_ltA ow_lt (dv 3) (de_w de_int) (nomark _)) (dw_and1 (dt_cmp op_gt ow_gt (dv 2) (de_w de_int) (nomark _))))) (ds_cons (ds_set (i := 5) SC.nd rfl (by first | exact Or.inl rfl | exact Or.inr rfl) (de_bin op_addA od_add de_int (de_if (dt_cmp op_gt ow_gt (dv 2) (de_w de_int) (nomark _)) (de_fn (c_law_roll X) (hr.mono (by omega)) (L2N.takes_of rfl rfl rfl rfl) (dx_own (pv 0) (dx_dat de_int dx_nil))) de_int))) (ds_cons (ds_set (i := 6) SC.nd rfl (by first | exact Or.inl rfl | exact Or.inr rfl) (de_callTy call_tuple_of cd_tuple rfl (He.free_ok X.KX X.G (X.c.fact 6 rfl)) (by decide +kernel) (da_cons (de_frz (do_lcT (own := [("turn", 7)]) rfl SC.nd (di_range1 rfl (He.free_ok X.KX X.G (X.c.fact 5 rfl)) (da_cons (dv 5) da_nil)) (blkOk_by (by kernel_rfl)) (fun _ _ _ _ _ _ _ _ => (dg_name (i := 7) SC.nd rfl (by first | exact Or.inl rfl | exact Or.inr rfl))) (fun _ _ _ _ _ _ _ _ => dts_nil) (fun _ _ _ _ _ _ _ _ => (de_fn R (hr.mono (by omega)) takes0N (dx_own (pv 0) (dx_dat (de_bin op_sub od_sub (dv 1) de_int) (dx_dat (de_bin op_fdivW od_div (dv 2) (dv 5)) dx_nil))))))) da_nil))) (ds_one (ds_ret (de_tup (da_cons (de_if (dt_cmp op_ltA ow_lt (dv 3) (de_w de_int) (nomark _)) de_str de_str) (da_cons (dv 6) da_nil))))))) ds_nil) (ds_cons (ds_set (i := 4) SC.nd rfl (by first | exact Or.inl rfl | exact Or.inr rfl) (de_fn R (hr.mono (by omega)) (L2N.takes_of rfl rfl rfl rfl) (dx_own (pv 0) (dx_dat (de_bin op_sub od_sub (dv 1) de_int) (dx_dat (dv 2) dx_nil))))) (ds_cons (ds_if (PW.pt (dw_and (dt_cmp op_ltA ow_lt (dv 3) (de_w de_int) (nomark _)) (dw_and1 (dt_not (dt_val (de_fn (c_law_null X) (hr.mono (by omega)) (L2N.takes_of rfl rfl rfl rfl) (dx_dat (dv 4) dx_nil))))))) (ds_one (ds_ret (de_tup (da_cons de_str (da_cons (dv 4) da_nil))))) ds_nil) (ds_one (ds_ret (de_if (dt_cmp (op_neD hr.units) ow_ne (de_ix (dv 4) de_int) (de_w de_str) (nomark _)) (de_tup (da_cons de_str (da_cons (dv 4) da_nil))) (dv 4)))))))))
theorem w_law_draw (X : Fx K h mg base) (j : Nat) : Cal P w (tbOf K (tabs K) w) mg base (21 + j) "_law_draw" 3 (f_law_draw j) := by
  obtain ⟨fd, F⟩ := X.c.def_ 4 (d := d4) rfl
  have SC := sc_law_draw
  have B : Binds K fd ["dice", "depth", "room"] [] := F.bindsN fun _ _ _ _ _ _ us hl => match us, hl with | [_, _, _], _ => rfl
  induction j with
  | zero => exact cal_no (T := tbOf K (tabs K) w) F (He.glo_ok X.KX X.G (X.c.fact 7 rfl)) B
  | succ j R => exact cal_of F SC (He.glo_ok X.KX X.G (X.c.fact 7 rfl)) B (y_law_draw X R)
theorem c_law_draw (X : Fx K h mg base) : Cal P w (tbOf K (tabs K) w) mg base 41 "_law_draw" 3 (f_law_draw 20) := w_law_draw X 20
theorem sc_law_pattern : FnScope ["dice", "act", "one", "two", "double"] ["dice"] (defScope (top 75)) := ⟨rfl, rfl, rfl, by decide +kernel, rfl, by decide +kernel, by decide +kernel⟩
theorem y_law_pattern (X : Fx K h mg base) {f : Addr} : Body P w (tbOf K (tabs K) w) mg base ["dice", "act", "one", "two", "double"] "_law_pattern" (defScope (top 75)) f 42 (defBody (top 75)) b_law_pattern := by
  intro cdv A outer s H E H0 F0 OA V0 hr
  have SC := sc_law_pattern
  exact (ds_cons (ds_set (i := 1) SC.nd rfl (by first | exact Or.inl rfl | exact Or.inr rfl) (de_fn (c_law_roll X) (hr.mono (by decide)) (L2N.takes_of rfl rfl rfl rfl) (dx_own (pv 0) (dx_dat de_int dx_nil)))) (ds_cons (ds_asg (de_tup (da_cons (de_tup (da_cons de_str (da_cons de_str da_nil))) (da_cons (de_tup (da_cons de_str (da_cons de_str da_nil))) da_nil))) (dg_tup rfl (dgs_cons (dg_name (i := 2) SC.nd rfl (by first | exact Or.inl rfl | exact Or.inr rfl)) (dgs_cons (dg_name (i := 3) SC.nd rfl (by first | exact Or.inl rfl | exact Or.inr rfl)) dgs_nil)))) (ds_cons (ds_if (dt_cmp (op_eqD hr.units) ow_eq (dv 1) (de_w de_int) (nomark _)) (ds_one (ds_ret (de_tup (da_cons de_str (da_cons (de_tup (da_cons de_str (da_cons (de_tup (da_cons (dv 2) (da_cons (dv 3) da_nil))) da_nil))) da_nil))))) ds_nil) (ds_cons (ds_if (dt_cmp (op_eqD hr.units) ow_eq (dv 1) (de_w de_int) (nomark _)) (ds_one (ds_ret (de_tup (da_cons de_str (da_cons (de_tup (da_cons (de_tup (da_cons de_str (da_cons (dv 2) da_nil))) (da_cons (de_tup (da_cons de_str (da_cons (dv 3) da_nil))) (da_cons (de_tup (da_cons de_str (da_cons de_str da_nil))) da_nil)))) da_nil))))) ds_nil) (ds_cons (ds_if (dt_cmp (op_eqD hr.units) ow_eq (dv 1) (de_w de_int) (nomark _)) (ds_one (ds_ret (de_tup (da_cons de_str (da_cons (de_tup (da_cons (de_tup (da_cons de_str (da_cons (dv 3) da_nil))) (da_cons (de_tup (da_cons de_str (da_cons (dv 2) da_nil))) (da_cons (de_tup (da_cons de_str (da_cons (dv 3) da_nil))) da_nil)))) da_nil))))) ds_nil) (ds_cons (ds_if (dt_cmp (op_eqD hr.units) ow_eq (dv 1) (de_w de_int) (nomark _)) (ds_one (ds_ret (de_tup (da_cons de_str (da_cons (de_tup (da_cons de_str (da_cons (de_tup (da_cons (de_tup (da_cons de_str (da_cons (dv 2) da_nil))) (da_cons (dv 3) da_nil))) da_nil))) da_nil))))) ds_nil) (ds_cons (ds_if (dt_cmp (op_eqD hr.units) ow_eq (dv 1) (de_w de_int) (nomark _)) (ds_one (ds_ret (de_tup (da_cons de_str (da_cons (de_tup (da_cons (de_tup (da_cons de_str (da_cons (de_tup (da_cons (de_tup (da_cons de_str (da_cons (dv 2) da_nil))) (da_cons (de_tup (da_cons de_str (da_cons (dv 3) da_nil))) da_nil))) da_nil))) (da_cons (de_tup (da_cons de_str (da_cons (de_tup (da_cons de_str (da_cons (de_tup (da_cons (dv 2) (da_cons (dv 3) da_nil))) da_nil))) da_nil))) da_nil))) da_nil))))) ds_nil) (ds_cons (ds_if (dt_cmp (op_eqD hr.units) ow_eq (dv 1) (de_w de_int) (nomark _)) (ds_one (ds_ret (de_tup (da_cons de_str (da_cons (de_tup (da_cons de_str (da_cons (de_tup (da_cons (de_tup (da_cons de_str (da_cons (de_tup (da_cons (de_tup (da_cons de_str (da_cons (de_tup (da_cons de_str (da_cons de_str da_nil))) da_nil))) (da_cons (de_tup (da_cons de_str (da_cons (de_tup (da_cons de_str (da_cons de_str da_nil))) da_nil))) da_nil))) da_nil))) (da_cons (dv 2) da_nil))) da_nil))) da_nil))))) ds_nil) (ds_cons (ds_if (dt_cmp (op_eqD hr.units) ow_eq (dv 1) (de_w de_int) (nomark _)) (ds_cons (ds_set (i := 4) SC.nd rfl (by first | exact Or.inl rfl | exact Or.inr rfl) (de_tup (da_cons de_str (da_cons (de_tup (da_cons (de_tup (da_cons de_str (da_cons (dv 2) da_nil))) (da_cons (de_tup (da_cons de_str (da_cons (dv 3) da_nil))) da_nil))) da_nil)))) (ds_one (ds_ret (de_tup (da_cons de_str (da_cons (de_tup (da_cons (de_tup (da_cons de_str (da_cons (dv 2) da_nil))) (da_cons (de_tup (da_cons de_str (da_cons (dv 2) da_nil))) (da_cons (de_tup (da_cons de_str (da_cons de_str da_nil))) (da_cons (dv 4) da_nil))))) da_nil)))))) ds_nil) (ds_one (ds_ret (de_fn (c_law_draw X) (hr.mono (by decide)) (L2N.takes_of rfl rfl rfl rfl) (dx_own (pv 0) (dx_dat de_int (dx_dat de_int dx_nil)))))))))))))))
theorem c_law_pattern (X : Fx K h mg base) : Cal P w (tbOf K (tabs K) w) mg base 43 "_law_pattern" 1 f_law_pattern := by
  obtain ⟨fd, F⟩ := X.c.def_ 5 (d := d5) rfl
  have SC := sc_law_pattern
  have B : Binds K fd ["dice"] [] := F.bindsN fun _ _ _ _ _ _ us hl => match us, hl with | [_], _ => rfl
  exact cal_of F SC (He.glo_ok X.KX X.G (X.c.fact 8 rfl)) B (y_law_pattern X)
theorem sc_is_letters : FnScope ["value", "one", "other", "letter"] ["value"] (defScope (top 19)) := ⟨rfl, rfl, rfl, by decide +kernel, rfl, by decide +kernel, by decide +kernel⟩
theorem y_is_letters (X : Fx K h mg base) {f : Addr} : Body P w (tbOf K (tabs K) w) mg base ["value", "one", "other", "letter"] "is_letters" (defScope (top 19)) f 0 (defBody (top 19)) b_is_letters := by
  intro cdv A outer s H E H0 F0 OA V0 hr
  have SC := sc_is_letters
  exact (ds_cons (ds_if (PW.pt (dw_or (dt_not (dt_val (de_isi (x := "isinstance") isi_str (dv 0) rfl (He.free_ok X.KX X.G (X.c.fact 9 rfl)) rfl (He.free_ok X.KX X.G (X.c.fact 10 rfl)) (by decide +kernel)))) (dw_or (dt_not (dt_chain op_le op_le ow_le ow_le de_int (de_len (de_w (dv 0)) rfl (He.free_ok X.KX X.G (X.c.fact 0 rfl))) de_int)) (dw_or1 (dt_not (dt_val (de_callB (cr_all rfl) cd_all rfl (He.free_ok X.KX X.G (X.c.fact 12 rfl)) (by decide +kernel) (da_cons (de_frz (do_lcT (own := [("letter", 3)]) rfl SC.nd (di_str (dv 0)) (blkOk_by (by kernel_rfl)) (fun _ _ _ _ _ _ _ _ => (dg_name (i := 3) SC.nd rfl (by first | exact Or.inl rfl | exact Or.inr rfl))) (fun _ _ _ _ _ _ _ _ => dts_nil) (fun _ _ _ _ _ _ _ _ => (de_cmp (op_inA hr.u65) ow_in (dv 3) (de_w (de_gstr rfl (He.str_ok X.KX X.G (X.c.fact 11 rfl)))) (by rfl))))) da_nil)))))))) (ds_one (ds_ret de_bl)) ds_nil) (ds_one (ds_ret (de_callB (cr_all rfl) cd_all rfl (He.free_ok X.KX X.G (X.c.fact 12 rfl)) (by decide +kernel) (da_cons (de_frz (do_lcT (own := [("one", 1), ("other", 2)]) rfl SC.nd (di_zip rfl (He.free_ok X.KX X.G (X.c.fact 13 rfl)) (da_cons (dv 0) (da_cons (de_slice (dv 0) (dp_so de_int) dp_no) da_nil))) (blkOk_by (by kernel_rfl)) (fun _ _ _ _ _ _ _ _ => (dg_tup rfl (dgs_cons (dg_name (i := 1) SC.nd rfl (by first | exact Or.inl rfl | exact Or.inr rfl)) (dgs_cons (dg_name (i := 2) SC.nd rfl (by first | exact Or.inl rfl | exact Or.inr rfl)) dgs_nil)))) (fun _ _ _ _ _ _ _ _ => dts_nil) (fun _ _ _ _ _ _ _ _ => (de_cmp op_ltA ow_lt (dv 1) (de_w (dv 2)) (nomark _))))) da_nil)))))
theorem c_is_letters (X : Fx K h mg base) : Cal P w (tbOf K (tabs K) w) mg base 1 "is_letters" 1 f_is_letters := by
  obtain ⟨fd, F⟩ := X.c.def_ 6 (d := d6) rfl
  have SC := sc_is_letters
  have B : Binds K fd ["value"] [] := F.bindsN fun _ _ _ _ _ _ us hl => match us, hl with | [_], _ => rfl
  exact cal_of F SC (He.glo_ok X.KX X.G (X.c.fact 14 rfl)) B (y_is_letters X)
theorem sc_has_shape : FnScope ["value", "depth", "item"] ["value", "depth"] (defScope (top 20)) := ⟨rfl, rfl, rfl, by decide +kernel, rfl, by decide +kernel, by decide +kernel⟩
theorem y_has_shape (X : Fx K h mg base) {f : Addr} {j : Nat} {r : Fn} (R : Cal P w (tbOf K (tabs K) w) mg base (1 + j) "has_shape" 2 r) : Body P w (tbOf K (tabs K) w) mg base ["value", "depth", "item"] "has_shape" (defScope (top 20)) f (1 + j) (defBody (top 20)) (b_has_shape r) := by
  intro cdv A outer s H E H0 F0 OA V0 hr
  have SC := sc_has_shape
  exact (ds_cons (ds_if (PW.pt (dw_or (dt_cmp (op_eqD hr.units) ow_eq (dv 1) (de_w de_int) (nomark _)) (dw_or (dt_not (dt_val (de_isi (x := "isinstance") isi_tuple (dv 0) rfl (He.free_ok X.KX X.G (X.c.fact 9 rfl)) rfl (He.free_ok X.KX X.G (X.c.fact 6 rfl)) (by decide +kernel)))) (dw_or (dt_cmp (op_neD hr.units) ow_ne (de_len (de_w (dv 0)) rfl (He.free_ok X.KX X.G (X.c.fact 0 rfl))) (de_w de_int) (nomark _)) (dw_or1 (dt_not (dt_val (de_isi (x := "isinstance") isi_str (de_ix (dv 0) de_int) rfl (He.free_ok X.KX X.G (X.c.fact 9 rfl)) rfl (He.free_ok X.KX X.G (X.c.fact 10 rfl)) (by decide +kernel))))))))) (ds_one (ds_ret de_bl)) ds_nil) (ds_cons (ds_if (dt_cmp (op_eqD hr.units) ow_eq (de_ix (dv 0) de_int) (de_w de_str) (nomark _)) (ds_one (ds_ret (de_fn (c_is_letters X) (hr.mono (by omega)) (L2N.takes_of rfl rfl rfl rfl) (dx_dat (de_ix (dv 0) de_int) dx_nil)))) ds_nil) (ds_cons (ds_if (dt_cmp (op_inA hr.u65) ow_in (de_ix (dv 0) de_int) (de_w (de_tup (da_cons de_str (da_cons de_str da_nil)))) (by rfl)) (ds_cons (ds_if (PW.pt (dw_or (dt_not (dt_val (de_isi (x := "isinstance") isi_tuple (de_ix (dv 0) de_int) rfl (He.free_ok X.KX X.G (X.c.fact 9 rfl)) rfl (He.free_ok X.KX X.G (X.c.fact 6 rfl)) (by decide +kernel)))) (dw_or1 (dt_not (dt_chain op_le op_le ow_le ow_le de_int (de_len (de_w (de_ix (dv 0) de_int)) rfl (He.free_ok X.KX X.G (X.c.fact 0 rfl))) de_int))))) (ds_one (ds_ret de_bl)) ds_nil) (ds_one (ds_ret (de_callB (cr_all rfl) cd_all rfl (He.free_ok X.KX X.G (X.c.fact 12 rfl)) (by decide +kernel) (da_cons (de_frz (do_lcT (own := [("item", 2)]) rfl SC.nd (di_tup (de_ix (dv 0) de_int)) (blkOk_by (by kernel_rfl)) (fun _ _ _ _ _ _ _ _ => (dg_name (i := 2) SC.nd rfl (by first | exact Or.inl rfl | exact Or.inr rfl))) (fun _ _ _ _ _ _ _ _ => dts_nil) (fun _ _ _ _ _ _ _ _ => (de_fn R (hr.mono (by omega)) takes0N (dx_dat (dv 2) (dx_dat (de_bin op_sub od_sub (dv 1) de_int) dx_nil)))))) da_nil))))) ds_nil) (ds_one (ds_ret (de_and (de_cmp (op_inA hr.u65) ow_in (de_ix (dv 0) de_int) (de_w (de_tup (da_cons de_str (da_cons de_str da_nil)))) (by rfl)) (de_one (de_fn R (hr.mono (by omega)) (L2N.takes_of rfl rfl rfl rfl) (dx_dat (de_ix (dv 0) de_int) (dx_dat (de_bin op_sub od_sub (dv 1) de_int) dx_nil))))))))))
theorem w_has_shape (X : Fx K h mg base) (j : Nat) : Cal P w (tbOf K (tabs K) w) mg base (1 + j) "has_shape" 2 (f_has_shape j) := by
  obtain ⟨fd, F⟩ := X.c.def_ 7 (d := d7) rfl
  have SC := sc_has_shape
  have B : Binds K fd ["value", "depth"] [] := F.bindsN fun _ _ _ _ _ _ us hl => match us, hl with | [_, _], _ => rfl
  induction j with
  | zero => exact cal_no (T := tbOf K (tabs K) w) F (He.glo_ok X.KX X.G (X.c.fact 15 rfl)) B
  | succ j R => exact cal_of F SC (He.glo_ok X.KX X.G (X.c.fact 15 rfl)) B (y_has_shape X R)
theorem c_has_shape (X : Fx K h mg base) : Cal P w (tbOf K (tabs K) w) mg base 21 "has_shape" 2 (f_has_shape 20) := w_has_shape X 20
theorem sc_items_of : FnScope ["pattern"] ["pattern"] (defScope (top 21)) := ⟨rfl, rfl, rfl, by decide +kernel, rfl, by decide +kernel, by decide +kernel⟩
theorem y_items_of (X : Fx K h mg base) {f : Addr} : Body P w (tbOf K (tabs K) w) mg base ["pattern"] "items_of" (defScope (top 21)) f 0 (defBody (top 21)) b_items_of := by
  intro cdv A outer s H E H0 F0 OA V0 hr
  have SC := sc_items_of
  exact (ds_cons (ds_if (dt_cmp (op_eqD hr.units) ow_eq (de_ix (dv 0) de_int) (de_w de_str) (nomark _)) (ds_one (ds_ret (de_tup da_nil))) ds_nil) (ds_one (ds_ret (de_if (dt_cmp (op_inA hr.u65) ow_in (de_ix (dv 0) de_int) (de_w (de_tup (da_cons de_str (da_cons de_str da_nil)))) (by rfl)) (de_ix (dv 0) de_int) (de_tup (da_cons (de_ix (dv 0) de_int) da_nil))))))
theorem c_items_of (X : Fx K h mg base) : Cal P w (tbOf K (tabs K) w) mg base 1 "items_of" 1 f_items_of := by
  obtain ⟨fd, F⟩ := X.c.def_ 8 (d := d8) rfl
  have SC := sc_items_of
  have B : Binds K fd ["pattern"] [] := F.bindsN fun _ _ _ _ _ _ us hl => match us, hl with | [_], _ => rfl
  exact cal_of F SC (He.glo_ok X.KX X.G (X.c.fact 16 rfl)) B (y_items_of X)
theorem sc_nullable : FnScope ["pattern", "some", "item"] ["pattern"] (defScope (top 22)) := ⟨rfl, rfl, rfl, by decide +kernel, rfl, by decide +kernel, by decide +kernel⟩
theorem y_nullable (X : Fx K h mg base) {f : Addr} {j : Nat} {r : Fn} (R : Cal P w (tbOf K (tabs K) w) mg base (1 + j) "nullable" 1 r) : Body P w (tbOf K (tabs K) w) mg base ["pattern", "some", "item"] "nullable" (defScope (top 22)) f (1 + j) (defBody (top 22)) (b_nullable r) := by
  intro cdv A outer s H E H0 F0 OA V0 hr
  have SC := sc_nullable
  exact (ds_cons (ds_setLcT (i := 1) (own := [("item", 2)]) rfl SC.nd rfl rfl (sw_true rfl rfl rfl rfl) (di_tup (de_fn (c_items_of X) (hr.mono (by omega)) (L2N.takes_of rfl rfl rfl rfl) (dx_dat (dv 0) dx_nil))) (blkOk_by (by kernel_rfl)) (fun _ _ _ _ _ _ _ _ => (dg_name (i := 2) SC.nd rfl (by first | exact Or.inl rfl | exact Or.inr rfl))) (fun _ _ _ _ _ _ _ _ => dts_nil) (fun _ _ _ _ _ _ _ _ => (de_fn R (hr.mono (by omega)) takes0N (dx_dat (dv 2) dx_nil)))) (ds_cons (ds_if (dt_cmp (op_eqD hr.units) ow_eq (de_ix (dv 0) de_int) (de_w de_str) (nomark _)) (ds_one (ds_ret (de_callB (cr_all rfl) cd_all rfl (He.free_ok X.KX X.G (X.c.fact 12 rfl)) (by decide +kernel) (da_cons (dv 1) da_nil)))) ds_nil) (ds_one (ds_ret (de_if (dt_cmp (op_eqD hr.units) ow_eq (de_ix (dv 0) de_int) (de_w de_str) (nomark _)) (de_callB (cr_any rfl) cd_any rfl (He.free_ok X.KX X.G (X.c.fact 17 rfl)) (by decide +kernel) (da_cons (dv 1) da_nil)) (de_cmp (op_inA hr.u65) ow_in (de_ix (dv 0) de_int) (de_w (de_tup (da_cons de_str (da_cons de_str da_nil)))) (by rfl)))))))
theorem w_nullable (X : Fx K h mg base) (j : Nat) : Cal P w (tbOf K (tabs K) w) mg base (1 + j) "nullable" 1 (f_nullable j) := by
  obtain ⟨fd, F⟩ := X.c.def_ 9 (d := d9) rfl
  have SC := sc_nullable
  have B : Binds K fd ["pattern"] [] := F.bindsN fun _ _ _ _ _ _ us hl => match us, hl with | [_], _ => rfl
  induction j with
  | zero => exact cal_no (T := tbOf K (tabs K) w) F (He.glo_ok X.KX X.G (X.c.fact 18 rfl)) B
  | succ j R => exact cal_of F SC (He.glo_ok X.KX X.G (X.c.fact 18 rfl)) B (y_nullable X R)
theorem c_nullable (X : Fx K h mg base) : Cal P w (tbOf K (tabs K) w) mg base 21 "nullable" 1 (f_nullable 20) := w_nullable X 20
theorem sc_stars_are_good : FnScope ["pattern", "item"] ["pattern"] (defScope (top 25)) := ⟨rfl, rfl, rfl, by decide +kernel, rfl, by decide +kernel, by decide +kernel⟩
theorem y_stars_are_good (X : Fx K h mg base) {f : Addr} {j : Nat} {r : Fn} (R : Cal P w (tbOf K (tabs K) w) mg base (22 + j) "stars_are_good" 1 r) : Body P w (tbOf K (tabs K) w) mg base ["pattern", "item"] "stars_are_good" (defScope (top 25)) f (22 + j) (defBody (top 25)) (b_stars_are_good r) := by
  intro cdv A outer s H E H0 F0 OA V0 hr
  have SC := sc_stars_are_good
  exact (ds_cons (ds_if (PW.pt (dw_and (dt_cmp (op_eqD hr.units) ow_eq (de_ix (dv 0) de_int) (de_w de_str) (nomark _)) (dw_and1 (dt_val (de_fn (c_nullable X) (hr.mono (by omega)) (L2N.takes_of rfl rfl rfl rfl) (dx_dat (de_ix (dv 0) de_int) dx_nil)))))) (ds_one (ds_ret de_bl)) ds_nil) (ds_one (ds_ret (de_callB (cr_all rfl) cd_all rfl (He.free_ok X.KX X.G (X.c.fact 12 rfl)) (by decide +kernel) (da_cons (de_frz (do_lcT (own := [("item", 1)]) rfl SC.nd (di_tup (de_fn (c_items_of X) (hr.mono (by omega)) (L2N.takes_of rfl rfl rfl rfl) (dx_dat (dv 0) dx_nil))) (blkOk_by (by kernel_rfl)) (fun _ _ _ _ _ _ _ _ => (dg_name (i := 1) SC.nd rfl (by first | exact Or.inl rfl | exact Or.inr rfl))) (fun _ _ _ _ _ _ _ _ => dts_nil) (fun _ _ _ _ _ _ _ _ => (de_fn R (hr.mono (by omega)) takes0N (dx_dat (dv 1) dx_nil))))) da_nil)))))
theorem w_stars_are_good (X : Fx K h mg base) (j : Nat) : Cal P w (tbOf K (tabs K) w) mg base (22 + j) "stars_are_good" 1 (f_stars_are_good j) := by
  obtain ⟨fd, F⟩ := X.c.def_ 10 (d := d10) rfl
  have SC := sc_stars_are_good
  have B : Binds K fd ["pattern"] [] := F.bindsN fun _ _ _ _ _ _ us hl => match us, hl with | [_], _ => rfl
  induction j with
  | zero => exact cal_no (T := tbOf K (tabs K) w) F (He.glo_ok X.KX X.G (X.c.fact 19 rfl)) B
  | succ j R => exact cal_of F SC (He.glo_ok X.KX X.G (X.c.fact 19 rfl)) B (y_stars_are_good X R)
theorem c_stars_are_good (X : Fx K h mg base) : Cal P w (tbOf K (tabs K) w) mg base 42 "stars_are_good" 1 (f_stars_are_good 20) := w_stars_are_good X 20
theorem sc_node_count : FnScope ["pattern", "item"] ["pattern"] (defScope (top 24)) := ⟨rfl, rfl, rfl, by decide +kernel, rfl, by decide +kernel, by decide +kernel⟩
theorem y_node_count (X : Fx K h mg base) {f : Addr} {j : Nat} {r : Fn} (R : Cal P w (tbOf K (tabs K) w) mg base (1 + j) "node_count" 1 r) : Body P w (tbOf K (tabs K) w) mg base ["pattern", "item"] "node_count" (defScope (top 24)) f (1 + j) (defBody (top 24)) (b_node_count r) := by
  intro cdv A outer s H E H0 F0 OA V0 hr
  have SC := sc_node_count
  exact (ds_one (ds_ret (de_bin op_addA od_add de_int (de_callB (cr_sum rfl) cd_sum rfl (He.free_ok X.KX X.G (X.c.fact 20 rfl)) (by decide +kernel) (da_cons (de_frz (do_lcT (own := [("item", 1)]) rfl SC.nd (di_tup (de_fn (c_items_of X) (hr.mono (by omega)) (L2N.takes_of rfl rfl rfl rfl) (dx_dat (dv 0) dx_nil))) (blkOk_by (by kernel_rfl)) (fun _ _ _ _ _ _ _ _ => (dg_name (i := 1) SC.nd rfl (by first | exact Or.inl rfl | exact Or.inr rfl))) (fun _ _ _ _ _ _ _ _ => dts_nil) (fun _ _ _ _ _ _ _ _ => (de_fn R (hr.mono (by omega)) takes0N (dx_dat (dv 1) dx_nil))))) da_nil)))))
theorem w_node_count (X : Fx K h mg base) (j : Nat) : Cal P w (tbOf K (tabs K) w) mg base (1 + j) "node_count" 1 (f_node_count j) := by
  obtain ⟨fd, F⟩ := X.c.def_ 11 (d := d11) rfl
  have SC := sc_node_count
  have B : Binds K fd ["pattern"] [] := F.bindsN fun _ _ _ _ _ _ us hl => match us, hl with | [_], _ => rfl
  induction j with
  | zero => exact cal_no (T := tbOf K (tabs K) w) F (He.glo_ok X.KX X.G (X.c.fact 21 rfl)) B
  | succ j R => exact cal_of F SC (He.glo_ok X.KX X.G (X.c.fact 21 rfl)) B (y_node_count X R)
theorem c_node_count (X : Fx K h mg base) : Cal P w (tbOf K (tabs K) w) mg base 21 "node_count" 1 (f_node_count 20) := w_node_count X 20
theorem sc_all_sets : FnScope ["pattern", "found", "item"] ["pattern"] (defScope (top 23)) := ⟨rfl, rfl, rfl, by decide +kernel, rfl, by decide +kernel, by decide +kernel⟩
theorem y_all_sets (X : Fx K h mg base) {f : Addr} {j : Nat} {r : Fn} (R : Cal P w (tbOf K (tabs K) w) mg base (1 + j) "all_sets" 1 r) : Body P w (tbOf K (tabs K) w) mg base ["pattern", "found", "item"] "all_sets" (defScope (top 23)) f (1 + j) (defBody (top 23)) (b_all_sets r) := by
  intro cdv A outer s H E H0 F0 OA V0 hr
  have SC := sc_all_sets
  exact (ds_cons (ds_if (dt_cmp (op_eqD hr.units) ow_eq (de_ix (dv 0) de_int) (de_w de_str) (nomark _)) (ds_one (ds_ret (de_tup (da_cons (de_ix (dv 0) de_int) da_nil)))) ds_nil) (ds_cons (ds_set (i := 1) SC.nd rfl (by first | exact Or.inl rfl | exact Or.inr rfl) (de_tup da_nil)) (ds_cons (ds_for PassesOwn.leaving rfl (di_tup (de_fn (c_items_of X) (hr.mono (by omega)) (L2N.takes_of rfl rfl rfl rfl) (dx_dat (dv 0) dx_nil))) (dg_name (i := 2) SC.nd rfl (by first | exact Or.inl rfl | exact Or.inr rfl)) (ds_one (ds_set (i := 1) SC.nd rfl (by first | exact Or.inl rfl | exact Or.inr rfl) (de_bin op_addA od_add (dv 1) (de_fn R (hr.mono (by omega)) (L2N.takes_of rfl rfl rfl rfl) (dx_dat (dv 2) dx_nil)))))) (ds_one (ds_ret (dv 1))))))
theorem w_all_sets (X : Fx K h mg base) (j : Nat) : Cal P w (tbOf K (tabs K) w) mg base (1 + j) "all_sets" 1 (f_all_sets j) := by
  obtain ⟨fd, F⟩ := X.c.def_ 12 (d := d12) rfl
  have SC := sc_all_sets
  have B : Binds K fd ["pattern"] [] := F.bindsN fun _ _ _ _ _ _ us hl => match us, hl with | [_], _ => rfl
  induction j with
  | zero => exact cal_no (T := tbOf K (tabs K) w) F (He.glo_ok X.KX X.G (X.c.fact 22 rfl)) B
  | succ j R => exact cal_of F SC (He.glo_ok X.KX X.G (X.c.fact 22 rfl)) B (y_all_sets X R)
theorem c_all_sets (X : Fx K h mg base) : Cal P w (tbOf K (tabs K) w) mg base 21 "all_sets" 1 (f_all_sets 20) := w_all_sets X 20
theorem sc_is_pattern : FnScope ["value"] ["value"] (defScope (top 26)) := ⟨rfl, rfl, rfl, by decide +kernel, rfl, by decide +kernel, by decide +kernel⟩
theorem y_is_pattern (X : Fx K h mg base) {f : Addr} : Body P w (tbOf K (tabs K) w) mg base ["value"] "is_pattern" (defScope (top 26)) f 43 (defBody (top 26)) b_is_pattern := by
  intro cdv A outer s H E H0 F0 OA V0 hr
  have SC := sc_is_pattern
  exact (ds_cons (ds_if (dt_not (dt_val (de_fn (c_has_shape X) (hr.mono (by decide)) (L2N.takes_of rfl rfl rfl rfl) (dx_dat (dv 0) (dx_dat (de_bin op_addA od_add (de_gint rfl (He.int_ok X.KX X.G (X.c.fact 23 rfl))) de_int) dx_nil))))) (ds_one (ds_ret de_bl)) ds_nil) (ds_one (ds_ret (de_and (de_cmp op_le ow_le (de_fn (c_node_count X) (hr.mono (by decide)) (L2N.takes_of rfl rfl rfl rfl) (dx_dat (dv 0) dx_nil)) (de_w (de_gint rfl (He.int_ok X.KX X.G (X.c.fact 23 rfl)))) (nomark _)) (de_and (de_cmp op_le ow_le (de_len (de_w (de_fn (c_all_sets X) (hr.mono (by decide)) (L2N.takes_of rfl rfl rfl rfl) (dx_dat (dv 0) dx_nil))) rfl (He.free_ok X.KX X.G (X.c.fact 0 rfl))) (de_w (de_gint rfl (He.int_ok X.KX X.G (X.c.fact 24 rfl)))) (nomark _)) (de_one (de_fn (c_stars_are_good X) (hr.mono (by decide)) (L2N.takes_of rfl rfl rfl rfl) (dx_dat (dv 0) dx_nil))))))))
theorem c_is_pattern (X : Fx K h mg base) : Cal P w (tbOf K (tabs K) w) mg base 44 "is_pattern" 1 f_is_pattern := by
  obtain ⟨fd, F⟩ := X.c.def_ 13 (d := d13) rfl
  have SC := sc_is_pattern
  have B : Binds K fd ["value"] [] := F.bindsN fun _ _ _ _ _ _ us hl => match us, hl with | [_], _ => rfl
  exact cal_of F SC (He.glo_ok X.KX X.G (X.c.fact 25 rfl)) B (y_is_pattern X)
theorem sc_check_pattern : FnScope ["pattern"] ["pattern"] (defScope (top 27)) := ⟨rfl, rfl, rfl, by decide +kernel, rfl, by decide +kernel, by decide +kernel⟩
theorem y_check_pattern (X : Fx K h mg base) {f : Addr} : Body P w (tbOf K (tabs K) w) mg base ["pattern"] "check_pattern" (defScope (top 27)) f 44 (defBody (top 27)) b_check_pattern := by
  intro cdv A outer s H E H0 F0 OA V0 hr
  have SC := sc_check_pattern
  exact (ds_one (ds_if (dt_not (dt_val (de_fn (c_is_pattern X) (hr.mono (by decide)) (L2N.takes_of rfl rfl rfl rfl) (dx_dat (dv 0) dx_nil)))) (ds_one (ds_raise (xc_of X.KX X.G (X.c.fact 26 rfl) (X.c.fact 27 rfl)) rfl (L2N.takes_of rfl rfl rfl rfl))) ds_nil))
theorem c_check_pattern (X : Fx K h mg base) : Cal P w (tbOf K (tabs K) w) mg base 45 "check_pattern" 1 f_check_pattern := by
  obtain ⟨fd, F⟩ := X.c.def_ 14 (d := d14) rfl
  have SC := sc_check_pattern
  have B : Binds K fd ["pattern"] [] := F.bindsN fun _ _ _ _ _ _ us hl => match us, hl with | [_], _ => rfl
  exact cal_of F SC (He.glo_ok X.KX X.G (X.c.fact 28 rfl)) B (y_check_pattern X)
theorem sc_is_nullable : FnScope ["pattern"] ["pattern"] (defScope (top 28)) := ⟨rfl, rfl, rfl, by decide +kernel, rfl, by decide +kernel, by decide +kernel⟩
theorem y_is_nullable (X : Fx K h mg base) {f : Addr} : Body P w (tbOf K (tabs K) w) mg base ["pattern"] "is_nullable" (defScope (top 28)) f 45 (defBody (top 28)) b_is_nullable := by
  intro cdv A outer s H E H0 F0 OA V0 hr
  have SC := sc_is_nullable
  exact (ds_cons (ds_exp (de_fn (c_check_pattern X) (hr.mono (by decide)) (L2N.takes_of rfl rfl rfl rfl) (dx_dat (dv 0) dx_nil))) (ds_one (ds_ret (de_fn (c_nullable X) (hr.mono (by decide)) (L2N.takes_of rfl rfl rfl rfl) (dx_dat (dv 0) dx_nil)))))
theorem c_is_nullable (X : Fx K h mg base) : Cal P w (tbOf K (tabs K) w) mg base 46 "is_nullable" 1 f_is_nullable := by
  obtain ⟨fd, F⟩ := X.c.def_ 15 (d := d15) rfl
  have SC := sc_is_nullable
  have B : Binds K fd ["pattern"] [] := F.bindsN fun _ _ _ _ _ _ us hl => match us, hl with | [_], _ => rfl
  exact cal_of F SC (He.glo_ok X.KX X.G (X.c.fact 29 rfl)) B (y_is_nullable X)
theorem sc_law_term : FnScope ["e", "flags", "kinds", "flag"] ["e"] (defScope (top 71)) := ⟨rfl, rfl, rfl, by decide +kernel, rfl, by decide +kernel, by decide +kernel⟩
theorem y_law_term (X : Fx K h mg base) {f : Addr} {c : Str} (hc0 : c ∈ exNames) {cdv : Value} {A : Around} {outer : List PySem.Env} {s : Shared} {H H0 F0 : Hp} {OA : List Addr} {V0 : L2.St} {a : Addr} {oe : Obj} (hr : RoomH 0 (A.deeper (envOfC "_law_term" (defScope (top 71)) s.heap.objs.size f cdv))) (hot : Hot1 A (a, oe)) (hz : Zc (.ref (He.ga K c)) none oe) (hf : ∃ vs, oe.data = .fields vs) :
    PSs (cxH C8.CX0 P w K mg base ["e", "flags", "kinds", "flag"] "_law_term" (defScope (top 71)) f cdv A outer s H C8.E0 (a, oe)) (defBody (top 71)) (tS ⟨tbOf K (tabs K) w, H0, F0, OA, V0⟩ W0 (b_law_term a c)) := by
  have SC := sc_law_term
  have xe := exB_at X.ex hc0
  have hc : HotC (cxH C8.CX0 P w K mg base ["e", "flags", "kinds", "flag"] "_law_term" (defScope (top 71)) f cdv A outer s H C8.E0 (a, oe)) := ⟨(a, oe), hot, List.mem_cons_self⟩
  exact (ds_cons (ds_set (i := 1) SC.nd rfl (by first | exact Or.inl rfl | exact Or.inr rfl) (de_lst (da_cons (de_isE List.mem_cons_self xe.1 hz hf (xe.2.1 "BadPattern" (by decide +kernel)) (dv 0) (pe_glob (v := .ref (He.ga K "BadPattern")) rfl (He.glo_ok X.KX X.G (X.c.fact 26 rfl)) rfl) (fun u r => r) rfl (He.free_ok X.KX X.G (X.c.fact 9 rfl))) (da_cons (de_isE List.mem_cons_self xe.1 hz hf (xe.2.1 "BadText" (by decide +kernel)) (dv 0) (pe_glob (v := .ref (He.ga K "BadText")) rfl (He.glo_ok X.KX X.G (X.c.fact 30 rfl)) rfl) (fun u r => r) rfl (He.free_ok X.KX X.G (X.c.fact 9 rfl))) (da_cons (de_isE List.mem_cons_self xe.1 hz hf (xe.2.1 "BadWord" (by decide +kernel)) (dv 0) (pe_glob (v := .ref (He.ga K "BadWord")) rfl (He.glo_ok X.KX X.G (X.c.fact 31 rfl)) rfl) (fun u r => r) rfl (He.free_ok X.KX X.G (X.c.fact 9 rfl))) (da_cons (de_isE List.mem_cons_self xe.1 hz hf (xe.2.1 "BadPosition" (by decide +kernel)) (dv 0) (pe_glob (v := .ref (He.ga K "BadPosition")) rfl (He.glo_ok X.KX X.G (X.c.fact 32 rfl)) rfl) (fun u r => r) rfl (He.free_ok X.KX X.G (X.c.fact 9 rfl))) da_nil)))))) (ds_cons (ds_set (i := 1) SC.nd rfl (by first | exact Or.inl rfl | exact Or.inr rfl) (de_bin op_addA od_add (dv 1) (de_lst (da_cons (de_isE List.mem_cons_self xe.1 hz hf (xe.2.1 "BadLength" (by decide +kernel)) (dv 0) (pe_glob (v := .ref (He.ga K "BadLength")) rfl (He.glo_ok X.KX X.G (X.c.fact 33 rfl)) rfl) (fun u r => r) rfl (He.free_ok X.KX X.G (X.c.fact 9 rfl))) (da_cons (de_isE List.mem_cons_self xe.1 hz hf (xe.2.1 "BadDegree" (by decide +kernel)) (dv 0) (pe_glob (v := .ref (He.ga K "BadDegree")) rfl (He.glo_ok X.KX X.G (X.c.fact 34 rfl)) rfl) (fun u r => r) rfl (He.free_ok X.KX X.G (X.c.fact 9 rfl))) (da_cons (de_isE List.mem_cons_self xe.1 hz hf (xe.2.1 "BadBudget" (by decide +kernel)) (dv 0) (pe_glob (v := .ref (He.ga K "BadBudget")) rfl (He.glo_ok X.KX X.G (X.c.fact 35 rfl)) rfl) (fun u r => r) rfl (He.free_ok X.KX X.G (X.c.fact 9 rfl))) da_nil)))))) (ds_cons (ds_set (i := 1) SC.nd rfl (by first | exact Or.inl rfl | exact Or.inr rfl) (de_bin op_addA od_add (dv 1) (de_lst (da_cons (de_isE List.mem_cons_self xe.1 hz hf (xe.2.1 "BadSyntax" (by decide +kernel)) (dv 0) (pe_glob (v := .ref (He.ga K "BadSyntax")) rfl (He.glo_ok X.KX X.G (X.c.fact 36 rfl)) rfl) (fun u r => r) rfl (He.free_ok X.KX X.G (X.c.fact 9 rfl))) (da_cons (de_isE List.mem_cons_self xe.1 hz hf (xe.2.1 "TooMany" (by decide +kernel)) (dv 0) (pe_glob (v := .ref (He.ga K "TooMany")) rfl (He.glo_ok X.KX X.G (X.c.fact 37 rfl)) rfl) (fun u r => r) rfl (He.free_ok X.KX X.G (X.c.fact 9 rfl))) (da_cons (de_isE List.mem_cons_self xe.1 hz hf (xe.2.1 "NothingToUndo" (by decide +kernel)) (dv 0) (pe_glob (v := .ref (He.ga K "NothingToUndo")) rfl (He.glo_ok X.KX X.G (X.c.fact 38 rfl)) rfl) (fun u r => r) rfl (He.free_ok X.KX X.G (X.c.fact 9 rfl))) da_nil)))))) (ds_cons (ds_set (i := 2) SC.nd rfl (by first | exact Or.inl rfl | exact Or.inr rfl) (de_lst (da_cons de_str (da_cons de_str (da_cons de_str (da_cons de_str (da_cons de_str (da_cons de_str (da_cons de_str da_nil))))))))) (ds_cons (ds_set (i := 2) SC.nd rfl (by first | exact Or.inl rfl | exact Or.inr rfl) (de_bin op_addA od_add (dv 2) (de_lst (da_cons de_str (da_cons de_str (da_cons de_str da_nil)))))) (ds_cons (ds_if (PW.pt (dw_or (dt_cmp (op_neD hr.units) ow_ne (de_callB (cr_sumH hc) cd_sum rfl (He.free_ok X.KX X.G (X.c.fact 20 rfl)) (by decide +kernel) (da_cons (de_frz (do_lcHT (own := [("flag", 3)]) hc SC.nd (dv 1) (blkOk_by (by kernel_rfl)) (fun _ _ _ _ _ _ _ _ => (dg_name (i := 3) SC.nd rfl (by first | exact Or.inl rfl | exact Or.inr rfl))) (fun _ _ _ _ _ _ _ _ => dts_nil) (fun _ _ _ _ _ _ _ _ => (de_callTy call_int1 cd_int rfl (He.free_ok X.KX X.G (X.c.fact 39 rfl)) (by decide +kernel) (da_cons (dv 3) da_nil))))) da_nil)) (de_w de_int) (nomark _)) (dw_or1 (dt_not (dt_val (de_isE List.mem_cons_self xe.1 hz hf xe.2.2.1 (dv 0) (pe_bltn (v := .ty "ValueError") rfl (He.free_ok X.KX X.G (X.c.fact 40 rfl)) (by decide +kernel) rfl) (fun u r => r) rfl (He.free_ok X.KX X.G (X.c.fact 9 rfl)))))))) (ds_one (ds_ret (de_tup (da_cons de_str (da_cons de_str da_nil))))) ds_nil) (ds_one (ds_ret (de_tup (da_cons de_str (da_cons (de_ix (dv 2) (de_idx (dv 1))) da_nil)))))))))))
theorem term_ok (X : Fx K h mg base) {k : Nat} : TermOk P w (tbOf K (tabs K) w) mg base k exNames := by
  obtain ⟨fd, F⟩ := X.c.def_ 16 (d := d16) rfl
  have B : Binds K fd ["e"] [] := F.bindsN fun _ _ _ _ _ _ us hl => match us, hl with | [_], _ => rfl
  refine ⟨_, fd, _, _, _, _, b_law_term, F, sc_law_term, (He.glo_ok X.KX X.G (X.c.fact 41 rfl)), B, fun c hc C hC cdv A outer s H a oe G hG hr hot hz hf => ?_, fun c hc a => term_pure hc a⟩
  cases hC
  rw [gd_el G hG rfl]
  exact y_law_term X hc (hr.mono (Nat.zero_le _)) hot hz hf
theorem told_ok (X : Fx K h mg base) {k : Nat} : ToldOk P w (tbOf K (tabs K) w) mg base k exNames := by
  obtain ⟨fd, F⟩ := X.c.def_ 17 (d := d17) rfl
  have B : Binds K fd ["deed"] [] := F.bindsN fun _ _ _ _ _ _ us hl => match us, hl with | [_], _ => rfl
  refine ⟨term_ok X, He.ga K "StepError", _, _, _, fd, _, _, _, _, _, _, _, _, _, _, fun c hc C hC => ?_, (He.glo_ok X.KX X.G (X.c.fact 42 rfl)), F, (He.glo_ok X.KX X.G (X.c.fact 43 rfl)), B, ⟨rfl, rfl, rfl, by decide +kernel, rfl, by decide +kernel, by decide +kernel⟩, rfl, rfl, rfl, rfl⟩
  cases hC
  exact (exB_at X.ex hc).2.2.2
theorem sc_sets : FnScope ["pattern"] ["pattern"] (defScope (top 29)) := ⟨rfl, rfl, rfl, by decide +kernel, rfl, by decide +kernel, by decide +kernel⟩
theorem y_sets (X : Fx K h mg base) {f : Addr} : Body P w (tbOf K (tabs K) w) mg base ["pattern"] "sets" (defScope (top 29)) f 45 (defBody (top 29)) b_sets := by
  intro cdv A outer s H E H0 F0 OA V0 hr
  have SC := sc_sets
  exact (ds_cons (ds_exp (de_fn (c_check_pattern X) (hr.mono (by decide)) (L2N.takes_of rfl rfl rfl rfl) (dx_dat (dv 0) dx_nil))) (ds_one (ds_ret (de_fn (c_all_sets X) (hr.mono (by decide)) (L2N.takes_of rfl rfl rfl rfl) (dx_dat (dv 0) dx_nil)))))
theorem c_sets (X : Fx K h mg base) : Cal P w (tbOf K (tabs K) w) mg base 46 "sets" 1 f_sets := by
  obtain ⟨fd, F⟩ := X.c.def_ 18 (d := d18) rfl
  have SC := sc_sets
  have B : Binds K fd ["pattern"] [] := F.bindsN fun _ _ _ _ _ _ us hl => match us, hl with | [_], _ => rfl
  exact cal_of F SC (He.glo_ok X.KX X.G (X.c.fact 44 rfl)) B (y_sets X)
theorem sc_start_list_x : FnScope ["pattern"] ["pattern"] (defScope (top 31)) := ⟨rfl, rfl, rfl, by decide +kernel, rfl, by decide +kernel, by decide +kernel⟩
theorem y_start_list_x (X : Fx K h mg base) {f : Addr} : Body P w (tbOf K (tabs K) w) mg base ["pattern"] "start_list" (defScope (top 31)) f 45 (defBody (top 31)) b_start_list_x := by
  intro cdv A outer s H E H0 F0 OA V0 hr
  have SC := sc_start_list_x
  exact (ds_cons (ds_exp (de_fn (c_check_pattern X) (hr.mono (by decide)) (L2N.takes_of rfl rfl rfl rfl) (dx_dat (dv 0) dx_nil))) ds_never)
theorem c_start_list_x (X : Fx K h mg base) : Cal P w (tbOf K (tabs K) w) mg base 46 "start_list" 1 f_start_list_x := by
  obtain ⟨fd, F⟩ := X.c.def_ 19 (d := d19) rfl
  have SC := sc_start_list_x
  have B : Binds K fd ["pattern"] [] := F.bindsN fun _ _ _ _ _ _ us hl => match us, hl with | [_], _ => rfl
  exact cal_of F SC (He.glo_ok X.KX X.G (X.c.fact 45 rfl)) B (y_start_list_x X)
theorem sc_matches_x : FnScope ["pattern", "text"] ["pattern", "text"] (defScope (top 44)) := ⟨rfl, rfl, rfl, by decide +kernel, rfl, by decide +kernel, by decide +kernel⟩
theorem y_matches_x (X : Fx K h mg base) {f : Addr} : Body P w (tbOf K (tabs K) w) mg base ["pattern", "text"] "matches" (defScope (top 44)) f 45 (defBody (top 44)) b_matches_x := by
  intro cdv A outer s H E H0 F0 OA V0 hr
  have SC := sc_matches_x
  exact (ds_cons (ds_exp (de_fn (c_check_pattern X) (hr.mono (by decide)) (L2N.takes_of rfl rfl rfl rfl) (dx_dat (dv 0) dx_nil))) ds_never)
theorem c_matches_x (X : Fx K h mg base) : Cal P w (tbOf K (tabs K) w) mg base 46 "matches" 2 f_matches_x := by
  obtain ⟨fd, F⟩ := X.c.def_ 20 (d := d20) rfl
  have SC := sc_matches_x
  have B : Binds K fd ["pattern", "text"] [] := F.bindsN fun _ _ _ _ _ _ us hl => match us, hl with | [_, _], _ => rfl
  exact cal_of F SC (He.glo_ok X.KX X.G (X.c.fact 46 rfl)) B (y_matches_x X)
theorem sc_growth_x : FnScope ["pattern", "graph", "degree"] ["pattern"] (defScope (top 35)) := ⟨rfl, rfl, rfl, by decide +kernel, rfl, by decide +kernel, by decide +kernel⟩
theorem y_growth_x (X : Fx K h mg base) {f : Addr} : Body P w (tbOf K (tabs K) w) mg base ["pattern", "graph", "degree"] "growth" (defScope (top 35)) f 45 (defBody (top 35)) b_growth_x := by
  intro cdv A outer s H E H0 F0 OA V0 hr
  have SC := sc_growth_x
  exact (ds_cons (ds_exp (de_fn (c_check_pattern X) (hr.mono (by decide)) (L2N.takes_of rfl rfl rfl rfl) (dx_dat (dv 0) dx_nil))) ds_never)
theorem c_growth_x (X : Fx K h mg base) : Cal P w (tbOf K (tabs K) w) mg base 46 "growth" 1 f_growth_x := by
  obtain ⟨fd, F⟩ := X.c.def_ 21 (d := d21) rfl
  have SC := sc_growth_x
  have B : Binds K fd ["pattern"] [] := F.bindsN fun _ _ _ _ _ _ us hl => match us, hl with | [_], _ => rfl
  exact cal_of F SC (He.glo_ok X.KX X.G (X.c.fact 47 rfl)) B (y_growth_x X)
theorem sc_is_pump_x : FnScope ["pattern", "value", "machine", "reach", "q"] ["pattern", "value"] (defScope (top 50)) := ⟨rfl, rfl, rfl, by decide +kernel, rfl, by decide +kernel, by decide +kernel⟩
theorem y_is_pump_x (X : Fx K h mg base) {f : Addr} : Body P w (tbOf K (tabs K) w) mg base ["pattern", "value", "machine", "reach", "q"] "is_pump" (defScope (top 50)) f 45 (defBody (top 50)) b_is_pump_x := by
  intro cdv A outer s H E H0 F0 OA V0 hr
  have SC := sc_is_pump_x
  exact (ds_cons (ds_exp (de_fn (c_check_pattern X) (hr.mono (by decide)) (L2N.takes_of rfl rfl rfl rfl) (dx_dat (dv 0) dx_nil))) ds_never)
theorem c_is_pump_x (X : Fx K h mg base) : Cal P w (tbOf K (tabs K) w) mg base 46 "is_pump" 2 f_is_pump_x := by
  obtain ⟨fd, F⟩ := X.c.def_ 22 (d := d22) rfl
  have SC := sc_is_pump_x
  have B : Binds K fd ["pattern", "value"] [] := F.bindsN fun _ _ _ _ _ _ us hl => match us, hl with | [_, _], _ => rfl
  exact cal_of F SC (He.glo_ok X.KX X.G (X.c.fact 48 rfl)) B (y_is_pump_x X)
theorem sc_check_both : FnScope ["one", "other"] ["one", "other"] (defScope (top 53)) := ⟨rfl, rfl, rfl, by decide +kernel, rfl, by decide +kernel, by decide +kernel⟩
theorem y_check_both (X : Fx K h mg base) {f : Addr} : Body P w (tbOf K (tabs K) w) mg base ["one", "other"] "check_both" (defScope (top 53)) f 45 (defBody (top 53)) b_check_both := by
  intro cdv A outer s H E H0 F0 OA V0 hr
  have SC := sc_check_both
  exact (ds_cons (ds_exp (de_fn (c_check_pattern X) (hr.mono (by decide)) (L2N.takes_of rfl rfl rfl rfl) (dx_dat (dv 0) dx_nil))) (ds_one (ds_exp (de_fn (c_check_pattern X) (hr.mono (by decide)) (L2N.takes_of rfl rfl rfl rfl) (dx_dat (dv 1) dx_nil)))))
theorem c_check_both (X : Fx K h mg base) : Cal P w (tbOf K (tabs K) w) mg base 46 "check_both" 2 f_check_both := by
  obtain ⟨fd, F⟩ := X.c.def_ 23 (d := d23) rfl
  have SC := sc_check_both
  have B : Binds K fd ["one", "other"] [] := F.bindsN fun _ _ _ _ _ _ us hl => match us, hl with | [_, _], _ => rfl
  exact cal_of F SC (He.glo_ok X.KX X.G (X.c.fact 49 rfl)) B (y_check_both X)
theorem sc_same_language_x : FnScope ["one", "other"] ["one", "other"] (defScope (top 54)) := ⟨rfl, rfl, rfl, by decide +kernel, rfl, by decide +kernel, by decide +kernel⟩
theorem y_same_language_x (X : Fx K h mg base) {f : Addr} : Body P w (tbOf K (tabs K) w) mg base ["one", "other"] "same_language" (defScope (top 54)) f 46 (defBody (top 54)) b_same_language_x := by
  intro cdv A outer s H E H0 F0 OA V0 hr
  have SC := sc_same_language_x
  exact (ds_cons (ds_exp (de_fn (c_check_both X) (hr.mono (by decide)) (L2N.takes_of rfl rfl rfl rfl) (dx_dat (dv 0) (dx_dat (dv 1) dx_nil)))) ds_never)
theorem c_same_language_x (X : Fx K h mg base) : Cal P w (tbOf K (tabs K) w) mg base 47 "same_language" 2 f_same_language_x := by
  obtain ⟨fd, F⟩ := X.c.def_ 24 (d := d24) rfl
  have SC := sc_same_language_x
  have B : Binds K fd ["one", "other"] [] := F.bindsN fun _ _ _ _ _ _ us hl => match us, hl with | [_, _], _ => rfl
  exact cal_of F SC (He.glo_ok X.KX X.G (X.c.fact 50 rfl)) B (y_same_language_x X)
theorem sc_simplify_x : FnScope ["pattern"] ["pattern"] (defScope (top 61)) := ⟨rfl, rfl, rfl, by decide +kernel, rfl, by decide +kernel, by decide +kernel⟩
theorem y_simplify_x (X : Fx K h mg base) {f : Addr} : Body P w (tbOf K (tabs K) w) mg base ["pattern"] "simplify" (defScope (top 61)) f 45 (defBody (top 61)) b_simplify_x := by
  intro cdv A outer s H E H0 F0 OA V0 hr
  have SC := sc_simplify_x
  exact (ds_cons (ds_exp (de_fn (c_check_pattern X) (hr.mono (by decide)) (L2N.takes_of rfl rfl rfl rfl) (dx_dat (dv 0) dx_nil))) ds_never)
theorem c_simplify_x (X : Fx K h mg base) : Cal P w (tbOf K (tabs K) w) mg base 46 "simplify" 1 f_simplify_x := by
  obtain ⟨fd, F⟩ := X.c.def_ 25 (d := d25) rfl
  have SC := sc_simplify_x
  have B : Binds K fd ["pattern"] [] := F.bindsN fun _ _ _ _ _ _ us hl => match us, hl with | [_], _ => rfl
  exact cal_of F SC (He.glo_ok X.KX X.G (X.c.fact 51 rfl)) B (y_simplify_x X)
theorem sc_to_text_x : FnScope ["pattern"] ["pattern"] (defScope (top 58)) := ⟨rfl, rfl, rfl, by decide +kernel, rfl, by decide +kernel, by decide +kernel⟩
theorem y_to_text_x (X : Fx K h mg base) {f : Addr} : Body P w (tbOf K (tabs K) w) mg base ["pattern"] "to_text" (defScope (top 58)) f 45 (defBody (top 58)) b_to_text_x := by
  intro cdv A outer s H E H0 F0 OA V0 hr
  have SC := sc_to_text_x
  exact (ds_cons (ds_exp (de_fn (c_check_pattern X) (hr.mono (by decide)) (L2N.takes_of rfl rfl rfl rfl) (dx_dat (dv 0) dx_nil))) ds_never)
theorem c_to_text_x (X : Fx K h mg base) : Cal P w (tbOf K (tabs K) w) mg base 46 "to_text" 1 f_to_text_x := by
  obtain ⟨fd, F⟩ := X.c.def_ 26 (d := d26) rfl
  have SC := sc_to_text_x
  have B : Binds K fd ["pattern"] [] := F.bindsN fun _ _ _ _ _ _ us hl => match us, hl with | [_], _ => rfl
  exact cal_of F SC (He.glo_ok X.KX X.G (X.c.fact 52 rfl)) B (y_to_text_x X)
theorem sc_Suite_init_x : FnScope ["self", "pattern", "budget"] ["self", "pattern", "budget"] (defScope (mth 65 0)) := ⟨rfl, rfl, rfl, by decide +kernel, rfl, by decide +kernel, by decide +kernel⟩
theorem y_Suite_init_x (X : Fx K h mg base) {f : Addr} : Body P w (tbOf K (tabs K) w) mg base ["self", "pattern", "budget"] "Suite.__init__" (defScope (mth 65 0)) f 45 (defBody (mth 65 0)) b_Suite_init_x := by
  intro cdv A outer s H E H0 F0 OA V0 hr
  have SC := sc_Suite_init_x
  exact (ds_cons (ds_exp (de_fn (c_check_pattern X) (hr.mono (by decide)) (L2N.takes_of rfl rfl rfl rfl) (dx_dat (dv 1) dx_nil))) ds_never)
theorem c_Suite_init_x (X : Fx K h mg base) : CalC P w (tbOf K (tabs K) w) mg base 46 "Suite" 3 f_Suite_init_x := by
  obtain ⟨fd, F⟩ := X.c.def_ 27 (d := d27) rfl
  have SC := sc_Suite_init_x
  have B : Binds K fd ["self", "pattern", "budget"] [] := F.bindsN fun _ _ _ _ _ _ us hl => match us, hl with | [_, _, _], _ => rfl
  exact calC_of F SC rfl (He.glo_ok X.KX X.G (X.c.fact 53 rfl)) (He.mkr_ok (X.c.fact 54 rfl)) B (y_Suite_init_x X)
theorem sc_law_patterns_rejected : FnScope ["one", "long_seq", "cases", "bad", "made"] [] (defScope (top 77)) := ⟨rfl, rfl, rfl, by decide +kernel, rfl, by decide +kernel, by decide +kernel⟩
theorem y_law_patterns_rejected (X : Fx K h mg base) : BodyC P w (tbOf K (tabs K) w) mg base ["one", "long_seq", "cases", "bad", "made"] "_law_patterns_rejected" (defScope (top 77)) (He.fAd K ("_law_patterns_rejected", none)) (He.codeOf K ("_law_patterns_rejected", none)) 50 (defBody (top 77)) b_law_patterns_rejected := by
  intro A outer s H E H0 F0 OA V0 hr
  have SC := sc_law_patterns_rejected
  exact (ds_cons (ds_set (i := 0) SC.nd rfl (by first | exact Or.inl rfl | exact Or.inr rfl) (de_tup (da_cons de_str (da_cons de_str da_nil)))) (ds_cons (ds_set (i := 1) SC.nd rfl (by first | exact Or.inl rfl | exact Or.inr rfl) (de_tup (da_cons de_str (da_cons (de_tup (da_cons (dv 0) (da_cons (dv 0) (da_cons (dv 0) (da_cons (dv 0) da_nil))))) da_nil)))) (ds_cons (ds_set (i := 2) SC.nd rfl (by first | exact Or.inl rfl | exact Or.inr rfl) (de_lst (da_cons de_non (da_cons de_int (da_cons de_str (da_cons (de_tup da_nil) (da_cons (de_tup (da_cons de_str da_nil)) (da_cons (de_tup (da_cons de_str (da_cons de_str da_nil))) (da_cons (de_tup (da_cons de_str (da_cons de_str da_nil))) (da_cons (de_tup (da_cons de_str (da_cons de_str da_nil))) (da_cons (de_tup (da_cons de_str (da_cons de_str da_nil))) da_nil))))))))))) (ds_cons (ds_set (i := 2) SC.nd rfl (by first | exact Or.inl rfl | exact Or.inr rfl) (de_bin op_addA od_add (dv 2) (de_lst (da_cons (de_tup (da_cons de_str (da_cons de_str da_nil))) (da_cons (de_tup (da_cons de_str (da_cons de_int da_nil))) (da_cons (de_lst (da_cons de_str (da_cons de_str da_nil))) da_nil)))))) (ds_cons (ds_set (i := 2) SC.nd rfl (by first | exact Or.inl rfl | exact Or.inr rfl) (de_bin op_addA od_add (dv 2) (de_lst (da_cons (de_tup (da_cons de_str (da_cons (de_tup (da_cons (dv 0) da_nil)) da_nil))) (da_cons (de_tup (da_cons de_str (da_cons (de_lst (da_cons (dv 0) (da_cons (dv 0) da_nil))) da_nil))) (da_cons (de_tup (da_cons de_str (da_cons (de_bin op_mulA od_mul (de_tup (da_cons (dv 0) da_nil)) de_int) da_nil))) (da_cons (de_tup (da_cons de_str (da_cons (de_tup da_nil) da_nil))) da_nil))))))) (ds_cons (ds_set (i := 2) SC.nd rfl (by first | exact Or.inl rfl | exact Or.inr rfl) (de_bin op_addA od_add (dv 2) (de_lst (da_cons (de_tup (da_cons de_str (da_cons (de_tup (da_cons (dv 0) (da_cons de_non da_nil))) da_nil))) (da_cons (de_tup (da_cons de_str (da_cons de_non da_nil))) (da_cons (de_tup (da_cons de_str (da_cons (de_tup (da_cons (dv 0) da_nil)) da_nil))) da_nil)))))) (ds_cons (ds_set (i := 2) SC.nd rfl (by first | exact Or.inl rfl | exact Or.inr rfl) (de_bin op_addA od_add (dv 2) (de_lst (da_cons (de_tup (da_cons de_str (da_cons (de_tup (da_cons de_str (da_cons (dv 0) da_nil))) da_nil))) (da_cons (de_tup (da_cons de_str (da_cons (de_tup (da_cons de_str (da_cons (dv 0) da_nil))) da_nil))) da_nil))))) (ds_cons (ds_set (i := 2) SC.nd rfl (by first | exact Or.inl rfl | exact Or.inr rfl) (de_bin op_addA od_add (dv 2) (de_lst (da_cons (de_tup (da_cons de_str (da_cons (de_tup (da_cons de_str (da_cons (de_tup (da_cons (dv 0) (da_cons (de_tup (da_cons de_str (da_cons (dv 0) da_nil))) da_nil))) da_nil))) da_nil))) (da_cons (de_tup (da_cons de_str (da_cons (dv 0) da_nil))) (da_cons (de_tup (da_cons de_bl (da_cons (dv 0) da_nil))) da_nil)))))) (ds_cons (ds_set (i := 2) SC.nd rfl (by first | exact Or.inl rfl | exact Or.inr rfl) (de_bin op_addA od_add (dv 2) (de_lst (da_cons (de_tup (da_cons de_str (da_cons (de_tup (da_cons (dv 1) (da_cons (dv 1) (da_cons (dv 0) da_nil)))) da_nil))) (da_cons (de_tup (da_cons de_str (da_cons (de_tup (da_cons de_str (da_cons (de_tup (da_cons (de_tup (da_cons de_str (da_cons (dv 0) da_nil))) (da_cons (de_tup (da_cons de_str (da_cons (dv 0) da_nil))) da_nil))) da_nil))) da_nil))) da_nil))))) (ds_cons (ds_for PassesOwn.leaving rfl (di_list (dv 2)) (dg_name (i := 3) SC.nd rfl (by first | exact Or.inl rfl | exact Or.inr rfl)) (ds_cons (ds_own (i := 4) SC.nd rfl (by first | exact Or.inl rfl | exact Or.inr rfl) (do_lst (da_cons (de_toldT (k := 46) (told_ok X) (X.TB _ List.mem_cons_self) rfl List.mem_cons_self (fun p hp _ => congrArg Prod.snd (List.mem_singleton.mp hp)) (hr.mono (by decide)) (lamS_by (by kernel_rfl)) rfl (fun _ _ _ _ _ => rfl) (fun A outer s H E f c1 hr => (de_fn (c_is_nullable X) (hr.mono (by decide)) lamN_takes (dx_dat (dv 3) dx_nil)))) da_nil))) (ds_cons (ds_exp (de_app (pv 4) (de_toldT (k := 46) (told_ok X) (X.TB _ List.mem_cons_self) rfl List.mem_cons_self (fun p hp _ => congrArg Prod.snd (List.mem_singleton.mp hp)) (hr.mono (by decide)) (lamS_by (by kernel_rfl)) rfl (fun _ _ _ _ _ => rfl) (fun A outer s H E f c1 hr => (de_fn (c_sets X) (hr.mono (by decide)) lamN_takes (dx_dat (dv 3) dx_nil)))))) (ds_cons (ds_exp (de_app (pv 4) (de_toldT (k := 46) (told_ok X) (X.TB _ List.mem_cons_self) rfl List.mem_cons_self (fun p hp _ => congrArg Prod.snd (List.mem_singleton.mp hp)) (hr.mono (by decide)) (lamS_by (by kernel_rfl)) rfl (fun _ _ _ _ _ => rfl) (fun A outer s H E f c1 hr => (de_fn (c_start_list_x X) (hr.mono (by decide)) lamN_takes (dx_dat (dv 3) dx_nil)))))) (ds_cons (ds_exp (de_app (pv 4) (de_toldT (k := 46) (told_ok X) (X.TB _ List.mem_cons_self) rfl List.mem_cons_self (fun p hp _ => congrArg Prod.snd (List.mem_singleton.mp hp)) (hr.mono (by decide)) (lamS_by (by kernel_rfl)) rfl (fun _ _ _ _ _ => rfl) (fun A outer s H E f c1 hr => (de_fn (c_matches_x X) (hr.mono (by decide)) lamN_takes (dx_dat (dv 3) (dx_dat de_str dx_nil))))))) (ds_cons (ds_exp (de_app (pv 4) (de_toldT (k := 46) (told_ok X) (X.TB _ List.mem_cons_self) rfl List.mem_cons_self (fun p hp _ => congrArg Prod.snd (List.mem_singleton.mp hp)) (hr.mono (by decide)) (lamS_by (by kernel_rfl)) rfl (fun _ _ _ _ _ => rfl) (fun A outer s H E f c1 hr => (de_fn (c_growth_x X) (hr.mono (by decide)) lamN_takes (dx_dat (dv 3) dx_nil)))))) (ds_cons (ds_exp (de_app (pv 4) (de_toldT (k := 46) (told_ok X) (X.TB _ List.mem_cons_self) rfl List.mem_cons_self (fun p hp _ => congrArg Prod.snd (List.mem_singleton.mp hp)) (hr.mono (by decide)) (lamS_by (by kernel_rfl)) rfl (fun _ _ _ _ _ => rfl) (fun A outer s H E f c1 hr => (de_fn (c_is_pump_x X) (hr.mono (by decide)) lamN_takes (dx_dat (dv 3) (dx_dat de_non dx_nil))))))) (ds_cons (ds_exp (de_app (pv 4) (de_toldT (k := 47) (told_ok X) (X.TB _ List.mem_cons_self) rfl List.mem_cons_self (fun p hp _ => congrArg Prod.snd (List.mem_singleton.mp hp)) (hr.mono (by decide)) (lamS_by (by kernel_rfl)) rfl (fun _ _ _ _ _ => rfl) (fun A outer s H E f c1 hr => (de_fn (c_same_language_x X) (hr.mono (by decide)) lamN_takes (dx_dat (dv 0) (dx_dat (dv 3) dx_nil))))))) (ds_cons (ds_exp (de_app (pv 4) (de_toldT (k := 46) (told_ok X) (X.TB _ List.mem_cons_self) rfl List.mem_cons_self (fun p hp _ => congrArg Prod.snd (List.mem_singleton.mp hp)) (hr.mono (by decide)) (lamS_by (by kernel_rfl)) rfl (fun _ _ _ _ _ => rfl) (fun A outer s H E f c1 hr => (de_fn (c_simplify_x X) (hr.mono (by decide)) lamN_takes (dx_dat (dv 3) dx_nil)))))) (ds_cons (ds_exp (de_app (pv 4) (de_toldT (k := 46) (told_ok X) (X.TB _ List.mem_cons_self) rfl List.mem_cons_self (fun p hp _ => congrArg Prod.snd (List.mem_singleton.mp hp)) (hr.mono (by decide)) (lamS_by (by kernel_rfl)) rfl (fun _ _ _ _ _ => rfl) (fun A outer s H E f c1 hr => (de_fn (c_to_text_x X) (hr.mono (by decide)) lamN_takes (dx_dat (dv 3) dx_nil)))))) (ds_cons (ds_exp (de_app (pv 4) (de_toldT (k := 46) (told_ok X) (X.TB _ List.mem_cons_self) rfl List.mem_cons_self (fun p hp _ => congrArg Prod.snd (List.mem_singleton.mp hp)) (hr.mono (by decide)) (lamS_by (by kernel_rfl)) rfl (fun _ _ _ _ _ => rfl) (fun A outer s H E f c1 hr => (de_frz (do_make (i := 0) (c_Suite_init_x X) (hr.mono (by decide)) lamN_takes (dx_dat (dv 3) (dx_dat de_int dx_nil)))))))) (ds_one (ds_if (PW.pt (dw_or (dt_cmp op_isnA ow_isn (de_fn (c_is_pattern X) (hr.mono (by decide)) (L2N.takes_of rfl rfl rfl rfl) (dx_dat (dv 3) dx_nil)) (de_w de_bl) (nomark _)) (dw_or1 (dt_cmpV 4 (op_neD hr.units) ow_ne (pv 4) (de_bin op_mulA od_mul (de_lst (da_cons (de_tup (da_cons de_str (da_cons de_str da_nil))) da_nil)) de_int) (nomark _))))) (ds_one (ds_ret de_bl)) ds_nil))))))))))))) (ds_one (ds_ret (de_cmp op_isA ow_is (de_fn (c_is_pattern X) (hr.mono (by decide)) (L2N.takes_of rfl rfl rfl rfl) (dx_dat (de_tup (da_cons de_str (da_cons (de_tup (da_cons (dv 1) (da_cons (dv 1) da_nil))) da_nil))) dx_nil)) (de_w de_bl) (nomark _))))))))))))))
theorem c_law_patterns_rejected (X : Fx K h mg base) : Cal P w (tbOf K (tabs K) w) mg base 51 "_law_patterns_rejected" 0 f_law_patterns_rejected := by
  obtain ⟨fd, F⟩ := X.c.def_ 28 (d := d28) rfl
  have SC := sc_law_patterns_rejected
  have B : Binds K fd [] [] := F.bindsN fun _ _ _ _ _ _ us hl => match us, hl with | [], _ => rfl
  exact cal_ofC (T := tbOf K (tabs K) w) (p := ("_law_patterns_rejected", none)) F SC (He.glo_ok X.KX X.G (X.c.fact 55 rfl)) B (y_law_patterns_rejected X)
theorem sc_size : FnScope ["pattern"] ["pattern"] (defScope (top 62)) := ⟨rfl, rfl, rfl, by decide +kernel, rfl, by decide +kernel, by decide +kernel⟩
theorem y_size (X : Fx K h mg base) {f : Addr} : Body P w (tbOf K (tabs K) w) mg base ["pattern"] "size" (defScope (top 62)) f 45 (defBody (top 62)) b_size := by
  intro cdv A outer s H E H0 F0 OA V0 hr
  have SC := sc_size
  exact (ds_cons (ds_exp (de_fn (c_check_pattern X) (hr.mono (by decide)) (L2N.takes_of rfl rfl rfl rfl) (dx_dat (dv 0) dx_nil))) (ds_one (ds_ret (de_fn (c_node_count X) (hr.mono (by decide)) (L2N.takes_of rfl rfl rfl rfl) (dx_dat (dv 0) dx_nil)))))
theorem c_size (X : Fx K h mg base) : Cal P w (tbOf K (tabs K) w) mg base 46 "size" 1 f_size := by
  obtain ⟨fd, F⟩ := X.c.def_ 29 (d := d29) rfl
  have SC := sc_size
  have B : Binds K fd ["pattern"] [] := F.bindsN fun _ _ _ _ _ _ us hl => match us, hl with | [_], _ => rfl
  exact cal_of F SC (He.glo_ok X.KX X.G (X.c.fact 56 rfl)) B (y_size X)
theorem sc_law_size : FnScope ["pattern", "item"] ["pattern"] (defScope (top 78)) := ⟨rfl, rfl, rfl, by decide +kernel, rfl, by decide +kernel, by decide +kernel⟩
theorem y_law_size (X : Fx K h mg base) {f : Addr} {j : Nat} {r : Fn} (R : Cal P w (tbOf K (tabs K) w) mg base (0 + j) "_law_size" 1 r) : Body P w (tbOf K (tabs K) w) mg base ["pattern", "item"] "_law_size" (defScope (top 78)) f (0 + j) (defBody (top 78)) (b_law_size r) := by
  intro cdv A outer s H E H0 F0 OA V0 hr
  have SC := sc_law_size
  exact (ds_cons (ds_if (dt_cmp (op_eqD hr.units) ow_eq (de_ix (dv 0) de_int) (de_w de_str) (nomark _)) (ds_one (ds_ret de_int)) ds_nil) (ds_one (ds_ret (de_bin op_addA od_add de_int (de_callB (cr_sum rfl) cd_sum rfl (He.free_ok X.KX X.G (X.c.fact 20 rfl)) (by decide +kernel) (da_cons (de_frz (do_lcT (own := [("item", 1)]) rfl SC.nd (di_tup (de_if (dt_cmp (op_inA hr.u65) ow_in (de_ix (dv 0) de_int) (de_w (de_tup (da_cons de_str (da_cons de_str da_nil)))) (by rfl)) (de_ix (dv 0) de_int) (de_tup (da_cons (de_ix (dv 0) de_int) da_nil)))) (blkOk_by (by kernel_rfl)) (fun _ _ _ _ _ _ _ _ => (dg_name (i := 1) SC.nd rfl (by first | exact Or.inl rfl | exact Or.inr rfl))) (fun _ _ _ _ _ _ _ _ => dts_nil) (fun _ _ _ _ _ _ _ _ => (de_fn R (hr.mono (by omega)) takes0N (dx_dat (dv 1) dx_nil))))) da_nil))))))
theorem w_law_size (X : Fx K h mg base) (j : Nat) : Cal P w (tbOf K (tabs K) w) mg base (0 + j) "_law_size" 1 (f_law_size j) := by
  obtain ⟨fd, F⟩ := X.c.def_ 30 (d := d30) rfl
  have SC := sc_law_size
  have B : Binds K fd ["pattern"] [] := F.bindsN fun _ _ _ _ _ _ us hl => match us, hl with | [_], _ => rfl
  induction j with
  | zero => exact cal_no (T := tbOf K (tabs K) w) F (He.glo_ok X.KX X.G (X.c.fact 57 rfl)) B
  | succ j R => exact cal_of F SC (He.glo_ok X.KX X.G (X.c.fact 57 rfl)) B (y_law_size X R)
theorem c_law_size (X : Fx K h mg base) : Cal P w (tbOf K (tabs K) w) mg base 20 "_law_size" 1 (f_law_size 20) := w_law_size X 20
theorem sc_law_letters : FnScope ["pattern", "found", "item"] ["pattern"] (defScope (top 76)) := ⟨rfl, rfl, rfl, by decide +kernel, rfl, by decide +kernel, by decide +kernel⟩
theorem y_law_letters (X : Fx K h mg base) {f : Addr} {j : Nat} {r : Fn} (R : Cal P w (tbOf K (tabs K) w) mg base (0 + j) "_law_letters" 1 r) : Body P w (tbOf K (tabs K) w) mg base ["pattern", "found", "item"] "_law_letters" (defScope (top 76)) f (0 + j) (defBody (top 76)) (b_law_letters r) := by
  intro cdv A outer s H E H0 F0 OA V0 hr
  have SC := sc_law_letters
  exact (ds_cons (ds_if (dt_cmp (op_eqD hr.units) ow_eq (de_ix (dv 0) de_int) (de_w de_str) (nomark _)) (ds_one (ds_ret (de_lst (da_cons (de_ix (dv 0) de_int) da_nil)))) ds_nil) (ds_cons (ds_set (i := 1) SC.nd rfl (by first | exact Or.inl rfl | exact Or.inr rfl) (de_lst da_nil)) (ds_cons (ds_for PassesOwn.leaving rfl (di_tup (de_if (dt_cmp (op_inA hr.u65) ow_in (de_ix (dv 0) de_int) (de_w (de_tup (da_cons de_str (da_cons de_str da_nil)))) (by rfl)) (de_ix (dv 0) de_int) (de_tup (da_cons (de_ix (dv 0) de_int) da_nil)))) (dg_name (i := 2) SC.nd rfl (by first | exact Or.inl rfl | exact Or.inr rfl)) (ds_one (ds_set (i := 1) SC.nd rfl (by first | exact Or.inl rfl | exact Or.inr rfl) (de_bin op_addA od_add (dv 1) (de_fn R (hr.mono (by omega)) (L2N.takes_of rfl rfl rfl rfl) (dx_dat (dv 2) dx_nil)))))) (ds_one (ds_ret (dv 1))))))
theorem w_law_letters (X : Fx K h mg base) (j : Nat) : Cal P w (tbOf K (tabs K) w) mg base (0 + j) "_law_letters" 1 (f_law_letters j) := by
  obtain ⟨fd, F⟩ := X.c.def_ 31 (d := d31) rfl
  have SC := sc_law_letters
  have B : Binds K fd ["pattern"] [] := F.bindsN fun _ _ _ _ _ _ us hl => match us, hl with | [_], _ => rfl
  induction j with
  | zero => exact cal_no (T := tbOf K (tabs K) w) F (He.glo_ok X.KX X.G (X.c.fact 58 rfl)) B
  | succ j R => exact cal_of F SC (He.glo_ok X.KX X.G (X.c.fact 58 rfl)) B (y_law_letters X R)
theorem c_law_letters (X : Fx K h mg base) : Cal P w (tbOf K (tabs K) w) mg base 20 "_law_letters" 1 (f_law_letters 20) := w_law_letters X 20
theorem sc_law_rounds : FnScope ["script", "high", "k"] ["script", "high"] (defScope (top 70)) := ⟨rfl, rfl, rfl, by decide +kernel, rfl, by decide +kernel, by decide +kernel⟩
structure RoundsOk (P : Program) (w : World) (K : PySem.W.Frag) (mg : Str → Option Value) (base : Heap) : Prop where
  ex : ∃ (f : Addr) (fd : FuncData), FnOk P w K mg base (L2N.CX P w) 2 f fd ["script", "high"] (spRounds (tbOf K (tabs K) w) f_law_cell mx_rounds 1 czS cntS) ∧ mg "_law_rounds" = some (.ref f) ∧ PySem.W.keepIn K (.ref f) = true ∧ Binds K fd ["script", "high"] []
theorem rounds_ok (X : Fx K h mg base) : RoundsOk P w K mg base := by
  obtain ⟨fd, F⟩ := X.c.def_ 32 (d := d32) rfl
  have SC := sc_law_rounds
  have B : Binds K fd ["script", "high"] [] := F.bindsN fun _ _ _ _ _ _ us hl => match us, hl with | [_, _], _ => rfl
  obtain ⟨fc, fdc, psc, h1, h2, h3, h4⟩ := (c_law_cell (P := P) (w := w) X).ex
  refine ⟨_, fd, F.ok SC (fun vs H Q E h => ?_) (fun cdv A outer s H vs Q E hr h => ?_), (He.glo_ok X.KX X.G (X.c.fact 61 rfl)), F.kp, B⟩
  · obtain ⟨_, _, _, _, hl, _⟩ := h
    exact hl
  · obtain ⟨F, hF⟩ := rounds_pure (N := ["script", "high", "k"]) (E1 := C8.E0) (W := wOf E) rfl (by decide) h
    exact ⟨_, pss_one (ps_ret (pe_lc (own := [("k", 2)]) rfl SC.nd (di_range1 rfl (He.free_ok X.KX X.G (X.c.fact 5 rfl)) (da_cons (de_callB (cr_maxA rfl) cd_max rfl (He.free_ok X.KX X.G (X.c.fact 59 rfl)) (by decide +kernel) (da_cons de_int (da_cons (de_callB (cr_minA rfl) cd_min rfl (He.free_ok X.KX X.G (X.c.fact 60 rfl)) (by decide +kernel) (da_cons (dv 1) (da_cons (de_len (de_w (dv 0)) rfl (He.free_ok X.KX X.G (X.c.fact 0 rfl))) da_nil))) da_nil))) da_nil)) (blkOk_by (by kernel_rfl)) (fun _ _ _ _ _ => pg_name (i := 2) SC.nd rfl (by first | exact Or.inl rfl | exact Or.inr rfl) (by first | exact .inl rfl | exact .inr rfl)) (fun _ _ _ _ _ => pts_nil) (fun _ _ _ _ _ => pe_lst (pa_cons (pe_call h1 (hr.mono (by decide)) rfl h2 h3 h4 .nil (L2N.passes_call takes0N fun _ _ _ _ z => z) (pa_cons (pv 0) (pa_cons (pv 2) pa_nil))) (pa_cons pe_int pa_nil))))), hF⟩
theorem sc_law : FnScope ["script", "dice", "pattern"] ["script"] (defScope (top 79)) := ⟨rfl, rfl, rfl, by decide +kernel, rfl, by decide +kernel, by decide +kernel⟩
theorem y_law (X : Fx K h mg base) {f : Addr} : Body P w (tbOf K (tabs K) w) mg base ["script", "dice", "pattern"] "law" (defScope (top 79)) f 51 (defBody (top 79)) b_law := by
  intro cdv A outer s H E H0 F0 OA V0 hr
  have SC := sc_law
  obtain ⟨rf, rfd, rf1, rf2, rf3, rf4⟩ := (rounds_ok (P := P) (w := w) X).ex
  exact (ds_cons (ds_rounds (x := "dice") rf1 (hr.mono (by decide)) rfl rf2 rf3 rf4 (L2N.passes_call (L2N.takes_of rfl rfl rfl rfl) fun _ _ _ _ z => z) rounds_mx4 rounds_cnt4 (fun ns h k hk => cell_pure ns h k) PassesOwn.leaving rfl (pv 0) SC.nd rfl (by first | exact Or.inl rfl | exact Or.inr rfl) (ds_cons (ds_set (i := 2) SC.nd rfl (by first | exact Or.inl rfl | exact Or.inr rfl) (de_fn (c_law_pattern X) (hr.mono (by decide)) (L2N.takes_of rfl rfl rfl rfl) (dx_own (pv 1) dx_nil))) (ds_cons (ds_if (PW.pt (dw_or (dt_cmp op_isnA ow_isn (de_fn (c_is_pattern X) (hr.mono (by decide)) (L2N.takes_of rfl rfl rfl rfl) (dx_dat (dv 2) dx_nil)) (de_w de_bl) (nomark _)) (dw_or1 (dt_cmp (op_neD hr.units) ow_ne (de_fn (c_is_nullable X) (hr.mono (by decide)) (L2N.takes_of rfl rfl rfl rfl) (dx_dat (dv 2) dx_nil)) (de_w (de_fn (c_law_null X) (hr.mono (by decide)) (L2N.takes_of rfl rfl rfl rfl) (dx_dat (dv 2) dx_nil))) (nomark _))))) (ds_one (ds_ret de_bl)) ds_nil) (ds_cons (ds_if (PW.pt (dw_or (dt_cmp (op_neD hr.units) ow_ne (de_fn (c_sets X) (hr.mono (by decide)) (L2N.takes_of rfl rfl rfl rfl) (dx_dat (dv 2) dx_nil)) (de_w (de_callTy call_tuple_of cd_tuple rfl (He.free_ok X.KX X.G (X.c.fact 6 rfl)) (by decide +kernel) (da_cons (de_fn (c_law_letters X) (hr.mono (by decide)) (L2N.takes_of rfl rfl rfl rfl) (dx_dat (dv 2) dx_nil)) da_nil))) (nomark _)) (dw_or1 (dt_cmp (op_neD hr.units) ow_ne (de_fn (c_size X) (hr.mono (by decide)) (L2N.takes_of rfl rfl rfl rfl) (dx_dat (dv 2) dx_nil)) (de_w (de_fn (c_law_size X) (hr.mono (by decide)) (L2N.takes_of rfl rfl rfl rfl) (dx_dat (dv 2) dx_nil))) (nomark _))))) (ds_one (ds_ret de_bl)) ds_nil) (ds_cons (ds_if (dt_cmp (op_neD hr.units) ow_ne (de_fn (c_is_pattern X) (hr.mono (by decide)) (L2N.takes_of rfl rfl rfl rfl) (dx_dat (de_tup (da_cons de_str (da_cons (dv 2) da_nil))) dx_nil)) (de_w (de_and (de_not (de_fn (c_law_null X) (hr.mono (by decide)) (L2N.takes_of rfl rfl rfl rfl) (dx_dat (dv 2) dx_nil))) (de_one (de_cmp op_ltA ow_lt (de_fn (c_law_size X) (hr.mono (by decide)) (L2N.takes_of rfl rfl rfl rfl) (dx_dat (dv 2) dx_nil)) (de_w de_int) (nomark _))))) (nomark _)) (ds_one (ds_ret de_bl)) ds_nil) (ds_cons (ds_if (dt_cmp op_isnA ow_isn (de_fn (c_is_nullable X) (hr.mono (by decide)) (L2N.takes_of rfl rfl rfl rfl) (dx_dat (de_tup (da_cons de_str (da_cons (dv 2) da_nil))) dx_nil)) (de_w de_bl) (nomark _)) (ds_one (ds_ret de_bl)) ds_nil) (ds_cons (ds_if (dt_cmp (op_neD hr.units) ow_ne (de_fn (c_is_pattern X) (hr.mono (by decide)) (L2N.takes_of rfl rfl rfl rfl) (dx_dat (de_tup (da_cons de_str (da_cons (dv 2) da_nil))) dx_nil)) (de_w (de_cmp op_ltA ow_lt (de_fn (c_law_size X) (hr.mono (by decide)) (L2N.takes_of rfl rfl rfl rfl) (dx_dat (dv 2) dx_nil)) (de_w de_int) (nomark _))) (nomark _)) (ds_one (ds_ret de_bl)) ds_nil) (ds_one (ds_if (dt_not (dt_val (de_fn0 (c_law_patterns_rejected X) (hr.mono (by decide)) (L2N.takes_of rfl rfl rfl rfl)))) (ds_one (ds_ret de_bl)) ds_nil))))))))) (ds_one (ds_ret de_bl)))
end
end LW
set_option Elab.async false
set_option linter.all false
set_option maxRecDepth 100000
set_option maxHeartbeats 0
namespace LW
open PySem PySem.Spec PyProof.Rows L2 L2H HotX LamX DL
theorem law_at {w : World} {mg : Str → Option Value} {f : Addr} {h : Heap} {K : PySem.W.Frag} (KX : K.In h) (G : h.Ns mainGlobals mg) (hfa : mg ("law" : Str) = some (.ref f)) (c : He.SaysX fa fn [] tf exk w h K) : LawAtS PySem.Challenge.rw_regexsteps_k01_whole_patterns w K (L2N.CX PySem.Challenge.pw_regexsteps_k01_whole_patterns w) 52 63 "script" mg f h := by
  obtain ⟨fd, F⟩ := c.t.d.def_ 33 (d := d33) rfl
  have SC := sc_law
  have e := hfa.symm.trans (He.glo_ok KX G (c.t.d.fact 62 (f := .glo "law") rfl))
  cases e
  have b := FunD.bindsA (ps := ["script"]) F fun _ _ _ _ _ _ us hl => match us, hl with | [_], _ => rfl
  refine ⟨fd, cs K, spF (tbOf K (tabs K) w) 1 f_law, fun p hp => ?_, fun p hp => ?_, fun p hp => ?_, fun s v => b s [v] rfl, fun H a ns hl _ hT hS => law_sp (fun p hp => ?_) hS (law_pure ns hl), fun base KB GB TB => ?_⟩
  · obtain ⟨q, hq, rfl⟩ := List.mem_map.mp hp
    exact c.empty q hq
  · obtain ⟨q, hq, rfl⟩ := List.mem_map.mp hp
    exact c.out q hq
  · obtain ⟨q, hq, rfl⟩ := List.mem_map.mp hp
    exact PySem.W.codeHd_of_K KX (c.hd q hq)
  · rw [List.mem_singleton.mp hp]
    exact hT _ (List.mem_map.mpr ⟨_, List.mem_cons_self, rfl⟩)
  · have X : Fx K h mg base := ⟨KX, G, c.t.d, (Bool.and_eq_true_iff.mp c.more).1, TB, (Bool.and_eq_true_iff.mp c.more).2⟩
    exact fn_ok F SC (y_law X)
end LW
open PySem PySem.W PySem.Calls PyProof.Rows
theorem PySem.Challenge.cw_regexsteps_k01_whole_patterns_holds : PySem.Challenge.rw_regexsteps_k01_whole_patterns.Holds := by
  w_on; o_law
  refine HandSHeadRun.head_any (r := OpenLaw.row PySem.Challenge.rw_regexsteps_k01_whole_patterns) (q := view (OpenLaw.row PySem.Challenge.rw_regexsteps_k01_whole_patterns).prog [79]) (H := LW.hk) (ob := LW.ob) (M := 20000) (loose := LW.loose) (d := HandSHeadRun.topDef (OpenLaw.row PySem.Challenge.rw_regexsteps_k01_whole_patterns).prog 79) (kwd := []) LW.ob_eq
    (by kernel_rfl) (fun s => by kernel_rfl) LW.run (by kernel_rfl) (by kernel_rfl) (by kernel_rfl) (by rfl) (by first | assumption | decide +kernel) (by decide +kernel) ⟨rfl, rfl, rfl, rfl, rfl, by decide +kernel⟩ ?hw ?hc
  case hw => w_witness2
  case hc =>
    refine LamX.walk_ofTsE (l := PySem.Challenge.rw_regexsteps_k01_whole_patterns) (n := 63) (k := 52) (x := "script") (CX := fun w => L2N.CX PySem.Challenge.pw_regexsteps_k01_whole_patterns w) rfl (by decide) (by kernel_rfl) ⟨rfl, by decide, by decide⟩ ?F (fun _ _ _ _ _ z => ?_)
    case F =>
      intro w mg fa h Y G hmg0
      obtain ⟨K, KX, c⟩ := Y
      have hmg : mg ("law" : PySem.Str) = some (.ref fa) := by
        have e : (HandSHeadRun.topDef (OpenLaw.row PySem.Challenge.rw_regexsteps_k01_whole_patterns).prog 79).name = ("law" : PySem.Str) := by kernel_rfl
        rw [← e]
        exact hmg0
      exact ⟨K, KX, LW.law_at KX G hmg c⟩
    · obtain ⟨_, _, _, _, _, _, _, _, _, _, _, _, _, _, _, _, z⟩ := z
