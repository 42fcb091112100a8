import PyProof.Rows.All
import Wide.All
import OpenK.AllK
import Wide.FinOn
import HandS.Head0
import HandS.Head1
import HandS.Head2
import HandS.HeadEnd
import HandS.HeadHook1
import HandS.HeadHook2
import HandS.HeadHook3
import HandS.HeadHook4
import HandS.Words
import KE.KSuper
import KE.KStateDown
import PySem.Challenge.RW_longstrike_k67_partings_refused
import HandS.ForMost
import HandS.Walk
import HandS.Star
import HandS.FStr
import HandS.DictComp
import HandS.IsInst
import HandS.ListItems
import HandS.Flow
import HandS.TryOnly
import HandS.Exc
import HandS.ExcOwn
import HandS.Rev
import HandS.RevRange
import HandS.Zip
import HandS.Codes
import HandS.Small
import HandS.SetIn
import HandS.RaiseMore
import KE.KDictList
import HandS.Conv
import HandS.TupLen
import HandS.Defaults
import PyProof.CollectWalk
import HandS.Replace
import PyProof.ToksMono
import HandS.Comp
import KE.KDictDisplayH
import HandS.Nested
import HandS.ClsMeth
import HandS.Style
import HandS.WordsExc
set_option Elab.async false
set_option linter.all false
set_option maxRecDepth 100000
set_option maxHeartbeats 4000000
set_option autoImplicit false
namespace Ls
open PySem PySem.Spec PyProof.Rows L2 He
/-! ### the head: facts by names -/
def htop (i : Nat) : Stmt := PySem.Challenge.pw_longstrike_k67_partings_refused.main.body.getD i (.Pass ⟨0, 0, 0, 0⟩)
abbrev LP : Program := (PySem.Challenge.rw_longstrike_k67_partings_refused).prog
/-- the def whose first statement is super().__init__ -/
abbrev SupV : Type := Option (Str × Str × Arguments × FuncBody × Scope × Addr × List Str × Value × Addr)
def supV (K : PySem.W.Frag) : SupV := match K.lookup (He.ma K (He.ga K "ColumnWatch") "__init__") with
  | some ⟨_, _, .func fd, _⟩ => some (fd.name, fd.qualname, fd.params, fd.body, fd.scope, fd.globals, fd.closure.map (·.1), fd.defaults, fd.builtins)
  | _ => none
def supVal : SupV := some ("__init__", "ColumnWatch.__init__", defArgs (inClass (htop 33) 0), .stmts (defBody (inClass (htop 33) 0)), defScope (inClass (htop 33) 0), mainGlobals, ["__class__"], .none, builtinsNs)
def codeB (K : PySem.W.Frag) (v : Value) : Bool := match v with
  | .ref cda => PySem.W.codeIn K (.ref cda) "ColumnWatch.__init__" && (match K.lookup cda with
    | some ⟨_, _, .fields vs, _⟩ => (match (vs[2]? : Option Value) with
      | some (Value.str file _) => (LP.main.file : Str) == file
      | _ => false)
    | _ => false)
  | _ => false
def cellB (K : PySem.W.Frag) (cl : List (Str × Addr)) : Bool := match cl with
  | [(_, cc)] => (match K.lookup cc with
    | some ⟨_, _, .cell (some (.ref C)), _⟩ => decide (C = He.ga K "ColumnWatch")
    | _ => false)
  | _ => false
def supB (K : PySem.W.Frag) : Bool := match K.lookup (He.ma K (He.ga K "ColumnWatch") "__init__") with
  | some ⟨_, _, .func fd, _⟩ => codeB K fd.code && cellB K fd.closure
  | _ => false
def sup2B (K : PySem.W.Frag) : Bool := (PySem.W.clsIn K (He.ga K "ColumnWatch")).isSome && (decide (PySem.W.mroIn K (He.ga K "ColumnWatch") (.ref (He.ga K "ColumnWatch")) = some true) && (eqO (PySem.W.ks_superIn K (He.ga K "ColumnWatch") (He.ga K "ColumnWatch") "__init__") (some (some (.ref (He.ma K (He.ga K "Watch") "__init__")))) &&
  (decide (PySem.W.typeIn K (.ref (He.ma K (He.ga K "Watch") "__init__")) = some (.type "function")) && (PySem.W.fnIn K (He.ma K (He.ga K "Watch") "__init__") && eqO (PySem.W.nsIn K cStatics "thirdparty.any") (some none)))))
theorem codeB_ok {K : PySem.W.Frag} {v : Value} (h : codeB K v = true) : ∃ cda, v = .ref cda ∧ PySem.W.codeIn K (.ref cda) "ColumnWatch.__init__" = true ∧ ∃ (ccl : Value) (cdd : Option Addr) (vs : Array Value) (ccs : Array (Option Value)) (file : Str) (tf : Tok), K.lookup cda = some ⟨ccl, cdd, .fields vs, ccs⟩ ∧ vs[2]? = some (.str file tf) ∧ ((LP.main.file : Str) == file) = true := by
  unfold codeB at h
  split at h
  · rename_i cda
    obtain ⟨h1, h2⟩ := ba h
    split at h2
    · rename_i e
      split at h2
      · rename_i e2
        exact ⟨_, rfl, h1, _, _, _, _, _, _, e, e2, h2⟩
      · cases h2
    · cases h2
  · cases h
theorem cellB_ok {K : PySem.W.Frag} {cl : List (Str × Addr)} (h : cellB K cl = true) : ∃ x cc, cl = [(x, cc)] ∧ ∃ (c1 : Value) (cld : Option Addr) (csl : Array (Option Value)), K.lookup cc = some ⟨c1, cld, .cell (some (.ref (He.ga K "ColumnWatch"))), csl⟩ := by
  unfold cellB at h
  split at h
  · split at h
    · rename_i e
      have e2 := of_decide_eq_true h
      subst e2
      exact ⟨_, _, rfl, _, _, _, e⟩
    · cases h
  · cases h
def exB (K : PySem.W.Frag) : Bool := He.tupB K "HERE" [.str "plain", .str "marked", .str "other"] && (decide (PySem.W.subIn K (.ref (He.ga K "UnlikeBooks")) (.ref (He.ga K "UnlikeBooks")) = some true) && (supB K && sup2B K))
def fn : List He.DefD := [
  ⟨("_law_draw", none), "_law_draw", "_law_draw", defArgs (htop 47), defBody (htop 47), defScope (htop 47), [], []⟩,
  ⟨("_law_fresh", none), "_law_fresh", "_law_fresh", defArgs (htop 50), defBody (htop 50), defScope (htop 50), [], []⟩,
  ⟨("_law_names", none), "_law_names", "_law_names", defArgs (htop 51), defBody (htop 51), defScope (htop 51), [], []⟩,
  ⟨("_law_pick", none), "_law_pick", "_law_pick", defArgs (htop 48), defBody (htop 48), defScope (htop 48), [], []⟩,
  ⟨("_law_shape", none), "_law_shape", "_law_shape", defArgs (htop 52), defBody (htop 52), defScope (htop 52), [], []⟩,
  ⟨("_law_all_checks", none), "_law_all_checks", "_law_all_checks", defArgs (htop 53), defBody (htop 53), defScope (htop 53), [], []⟩,
  ⟨("_law_checked", none), "_law_checked", "_law_checked", defArgs (htop 54), defBody (htop 54), defScope (htop 54), [], []⟩,
  ⟨("_law_rules", none), "_law_rules", "_law_rules", defArgs (htop 55), defBody (htop 55), defScope (htop 55), [], []⟩,
  ⟨("is_name", none), "is_name", "is_name", defArgs (htop 12), defBody (htop 12), defScope (htop 12), [], []⟩,
  ⟨("check_fresh", none), "check_fresh", "check_fresh", defArgs (htop 18), defBody (htop 18), defScope (htop 18), [], []⟩,
  ⟨("kinds_of", none), "kinds_of", "kinds_of", defArgs (htop 19), defBody (htop 19), defScope (htop 19), [], []⟩,
  ⟨("stands_in", none), "stands_in", "stands_in", defArgs (htop 13), defBody (htop 13), defScope (htop 13), [], []⟩,
  ⟨("column_rows_of", none), "column_rows_of", "column_rows_of", defArgs (htop 20), defBody (htop 20), defScope (htop 20), [], []⟩,
  ⟨("Column", some "__init__"), "__init__", "Column.__init__", defArgs (inClass (htop 17) 0), defBody (inClass (htop 17) 0), defScope (inClass (htop 17) 0), [], []⟩,
  ⟨("menu_of", none), "menu_of", "menu_of", defArgs (htop 22), defBody (htop 22), defScope (htop 22), [], []⟩,
  ⟨("checks_of", none), "checks_of", "checks_of", defArgs (htop 21), defBody (htop 21), defScope (htop 21), [], []⟩,
  ⟨("Book", some "__init__"), "__init__", "Book.__init__", defArgs (inClass (htop 23) 0), defBody (inClass (htop 23) 0), defScope (inClass (htop 23) 0), [.adr (He.dflAt ("Book", some "__init__") 0), .adr (He.dflAt ("Book", some "__init__") 1)], []⟩,
  ⟨("_law_made", none), "_law_made", "_law_made", defArgs (htop 56), defBody (htop 56), defScope (htop 56), [], []⟩,
  ⟨("_law_unlike", none), "_law_unlike", "_law_unlike", defArgs (htop 57), defBody (htop 57), defScope (htop 57), [], []⟩,
  ⟨("are_like", none), "are_like", "are_like", defArgs (htop 24), defBody (htop 24), defScope (htop 24), [], []⟩,
  ⟨("check_like", none), "check_like", "check_like", defArgs (htop 25), defBody (htop 25), defScope (htop 25), [], []⟩,
  ⟨("parting", none), "parting", "parting", defArgs (htop 45), defBody (htop 45), defScope (htop 45), [], []⟩,
  ⟨("_law_refuses", none), "_law_refuses", "_law_refuses", defArgs (htop 58), defBody (htop 58), defScope (htop 58), [], []⟩,
  ⟨("_law_mixed", none), "_law_mixed", "_law_mixed", defArgs (htop 49), defBody (htop 49), defScope (htop 49), [], []⟩,
  ⟨("ColumnWatch", some "first_other"), "first_other", "ColumnWatch.first_other", defArgs (inClass (htop 33) 4), defBody (inClass (htop 33) 4), defScope (inClass (htop 33) 4), [], []⟩,
  ⟨("Book", some "markable"), "markable", "Book.markable", defArgs (inClass (htop 23) 6), defBody (inClass (htop 23) 6), defScope (inClass (htop 23) 6), [], []⟩,
  ⟨("Watch", some "__init__"), "__init__", "Watch.__init__", defArgs (inClass (htop 31) 0), defBody (inClass (htop 31) 0), defScope (inClass (htop 31) 0), [], []⟩,
  ⟨("KindWatch", some "__init__"), "__init__", "Watch.__init__", defArgs (inClass (htop 31) 0), defBody (inClass (htop 31) 0), defScope (inClass (htop 31) 0), [], []⟩,
  ⟨("watches_of", none), "watches_of", "watches_of", defArgs (htop 44), defBody (htop 44), defScope (htop 44), [], []⟩,
  ⟨("ColumnWatch", some "begin"), "begin", "ColumnWatch.begin", defArgs (inClass (htop 33) 1), defBody (inClass (htop 33) 1), defScope (inClass (htop 33) 1), [], []⟩,
  ⟨("ColumnWatch", some "list_labels"), "list_labels", "Watch.list_labels", defArgs (inClass (htop 31) 6), defBody (inClass (htop 31) 6), defScope (inClass (htop 31) 6), [], []⟩,
  ⟨("ColumnWatch", some "labels"), "labels", "ColumnWatch.labels", defArgs (inClass (htop 33) 2), defBody (inClass (htop 33) 2), defScope (inClass (htop 33) 2), [], []⟩,
  ⟨("Book", some "__contains__"), "__contains__", "Book.__contains__", defArgs (inClass (htop 23) 9), defBody (inClass (htop 23) 9), defScope (inClass (htop 23) 9), [], []⟩,
  ⟨("ColumnWatch", some "may_put"), "may_put", "Watch.may_put", defArgs (inClass (htop 31) 3), defBody (inClass (htop 31) 3), defScope (inClass (htop 31) 3), [], []⟩,
  ⟨("ColumnWatch", some "has"), "has", "Watch.has", defArgs (inClass (htop 31) 1), defBody (inClass (htop 31) 1), defScope (inClass (htop 31) 1), [], []⟩,
  ⟨("ColumnWatch", some "may_refer"), "may_refer", "ColumnWatch.may_refer", defArgs (inClass (htop 33) 6), defBody (inClass (htop 33) 6), defScope (inClass (htop 33) 6), [], []⟩,
  ⟨("ColumnWatch", some "put_behind"), "put_behind", "ColumnWatch.put_behind", defArgs (inClass (htop 33) 7), defBody (inClass (htop 33) 7), defScope (inClass (htop 33) 7), [], []⟩,
  ⟨("ColumnWatch", some "turned"), "turned", "ColumnWatch.turned", defArgs (inClass (htop 33) 8), defBody (inClass (htop 33) 8), defScope (inClass (htop 33) 8), [], []⟩,
  ⟨("ColumnWatch", some "with_letter"), "with_letter", "Watch.with_letter", defArgs (inClass (htop 31) 4), defBody (inClass (htop 31) 4), defScope (inClass (htop 31) 4), [], []⟩,
  ⟨("ColumnWatch", some "fitting"), "fitting", "ColumnWatch.fitting", defArgs (inClass (htop 33) 10), defBody (inClass (htop 33) 10), defScope (inClass (htop 33) 10), [], []⟩,
  ⟨("ColumnWatch", some "looked"), "looked", "ColumnWatch.looked", defArgs (inClass (htop 33) 11), defBody (inClass (htop 33) 11), defScope (inClass (htop 33) 11), [], []⟩,
  ⟨("ColumnWatch", some "done_behind"), "done_behind", "ColumnWatch.done_behind", defArgs (inClass (htop 33) 12), defBody (inClass (htop 33) 12), defScope (inClass (htop 33) 12), [], []⟩,
  ⟨("ColumnWatch", some "may_mark"), "may_mark", "Watch.may_mark", defArgs (inClass (htop 31) 2), defBody (inClass (htop 31) 2), defScope (inClass (htop 31) 2), [], []⟩,
  ⟨("ColumnWatch", some "marked_behind"), "marked_behind", "ColumnWatch.marked_behind", defArgs (inClass (htop 33) 9), defBody (inClass (htop 33) 9), defScope (inClass (htop 33) 9), [], []⟩,
  ⟨("lacking", none), "lacking", "lacking", defArgs (htop 30), defBody (htop 30), defScope (htop 30), [], []⟩,
  ⟨("ColumnWatch", some "outcome"), "outcome", "ColumnWatch.outcome", defArgs (inClass (htop 33) 5), defBody (inClass (htop 33) 5), defScope (inClass (htop 33) 5), [], []⟩,
  ⟨("are_apart", none), "are_apart", "are_apart", defArgs (htop 37), defBody (htop 37), defScope (htop 37), [], []⟩,
  ⟨("way_apart", none), "way_apart", "way_apart", defArgs (htop 38), defBody (htop 38), defScope (htop 38), [], []⟩,
  ⟨("KindWatch", some "begin"), "begin", "KindWatch.begin", defArgs (inClass (htop 32) 0), defBody (inClass (htop 32) 0), defScope (inClass (htop 32) 0), [], []⟩,
  ⟨("KindWatch", some "list_labels"), "list_labels", "Watch.list_labels", defArgs (inClass (htop 31) 6), defBody (inClass (htop 31) 6), defScope (inClass (htop 31) 6), [], []⟩,
  ⟨("KindWatch", some "labels"), "labels", "KindWatch.labels", defArgs (inClass (htop 32) 1), defBody (inClass (htop 32) 1), defScope (inClass (htop 32) 1), [], []⟩,
  ⟨("KindWatch", some "may_put"), "may_put", "Watch.may_put", defArgs (inClass (htop 31) 3), defBody (inClass (htop 31) 3), defScope (inClass (htop 31) 3), [], []⟩,
  ⟨("KindWatch", some "may_mark"), "may_mark", "Watch.may_mark", defArgs (inClass (htop 31) 2), defBody (inClass (htop 31) 2), defScope (inClass (htop 31) 2), [], []⟩,
  ⟨("KindWatch", some "with_letter"), "with_letter", "Watch.with_letter", defArgs (inClass (htop 31) 4), defBody (inClass (htop 31) 4), defScope (inClass (htop 31) 4), [], []⟩,
  ⟨("KindWatch", some "has"), "has", "Watch.has", defArgs (inClass (htop 31) 1), defBody (inClass (htop 31) 1), defScope (inClass (htop 31) 1), [], []⟩,
  ⟨("KindWatch", some "outcome"), "outcome", "KindWatch.outcome", defArgs (inClass (htop 32) 3), defBody (inClass (htop 32) 3), defScope (inClass (htop 32) 3), [], []⟩,
  ⟨("law", none), "law", "law", defArgs (htop 59), defBody (htop 59), defScope (htop 59), [], []⟩]
def fa : List He.Fa := [.free "isinstance", .free "len", .free "all", .free "any", .free "str", .free "int", .free "bool", .free "list", .free "tuple", .free "dict", .free "range", .free "zip", .free "enumerate", .free "sorted", .free "min", .free "reversed", .free "super", .str "FALL" "fall", .str "CLEAR" "clear", .str "STRUCK" "strike", .str "LETTERS" "abcdefghijklmnopqrstuvwxyz", .glo "HERE", .cls "Column", .cls "Book", .cls "Watch", .cls "KindWatch", .cls "ColumnWatch", .cls "Weaver", .noat "Column" "word", .noat "Column" "home", .noat "Column" "goal", .noat "Column" "rule", .noat "Book" "open_kinds", .noat "Book" "column_rows", .noat "Book" "column_table", .noat "Book" "all_checks", .noat "Book" "own_checks", .noat "Watch" "law_book", .noat "Watch" "home", .noat "Watch" "can_mark", .noat "Watch" "sorts", .noat "KindWatch" "law_book", .noat "KindWatch" "home", .noat "KindWatch" "can_mark", .noat "KindWatch" "sorts", .noat "ColumnWatch" "by", .noat "ColumnWatch" "goal", .noat "ColumnWatch" "other_column", .noat "ColumnWatch" "sorts", .noat "ColumnWatch" "law_book", .noat "ColumnWatch" "home", .noat "ColumnWatch" "can_mark", .noat "Weaver" "watch", .noat "Weaver" "way", .noat "Weaver" "made", .noat "Weaver" "held", .noat "Weaver" "chains", .noat "Weaver" "unused", .glo "_law_draw", .glo "_law_fresh", .glo "_law_names", .glo "_law_pick", .glo "_law_shape", .glo "_law_all_checks", .glo "_law_checked", .glo "_law_rules", .glo "is_name", .glo "check_fresh", .glo "kinds_of", .glo "stands_in", .glo "column_rows_of", .mkr "Column", .glo "Column", .glo "menu_of", .glo "checks_of", .mkr "Book", .glo "Book", .glo "_law_made", .glo "_law_unlike", .glo "are_like", .glo "check_like", .glo "parting", .glo "_law_refuses", .glo "_law_mixed", .meth "ColumnWatch" "first_other", .meth "Book" "markable", .mkr "ColumnWatch", .glo "ColumnWatch", .mkr "KindWatch", .glo "KindWatch", .glo "watches_of", .meth "ColumnWatch" "begin", .meth "ColumnWatch" "list_labels", .meth "ColumnWatch" "labels", .meth "Book" "__contains__", .meth "ColumnWatch" "may_put", .meth "ColumnWatch" "has", .meth "ColumnWatch" "may_refer", .meth "ColumnWatch" "put_behind", .meth "ColumnWatch" "turned", .meth "ColumnWatch" "with_letter", .meth "ColumnWatch" "fitting", .meth "ColumnWatch" "looked", .meth "ColumnWatch" "done_behind", .meth "ColumnWatch" "may_mark", .meth "ColumnWatch" "marked_behind", .glo "lacking", .meth "ColumnWatch" "outcome", .glo "are_apart", .meth "KindWatch" "begin", .meth "KindWatch" "list_labels", .meth "KindWatch" "labels", .meth "KindWatch" "may_put", .meth "KindWatch" "may_mark", .meth "KindWatch" "with_letter", .meth "KindWatch" "has", .meth "KindWatch" "outcome", .glo "way_apart", .glo "law", .glo "UnlikeBooks", .exc "UnlikeBooks", .exm "UnlikeBooks" "UnlikeBooks" true]
/-- what is told -/
structure SaysY (K : PySem.W.Frag) : Prop where
  d : He.SaysD fa fn K
  ex : exB K = true
  sup : supV K = supVal
abbrev AlY : Type := He.AlD × Bool × SupV
def frY (g : Addr → Option Obj) : PySem.W.Frag := He.frT g (List.range 800)
def obsK (K : PySem.W.Frag) : AlY := (He.obsD fa fn K, exB K, supV K)
def obsY (g : Addr → Option Obj) : AlY := obsK (frY g)
def valY : AlY := (He.valD fn, true, supVal)
theorem saysY_of {K : PySem.W.Frag} (e : obsK K = valY) : SaysY K := ⟨congrArg (fun z : AlY => z.1) e, congrArg (fun z : AlY => z.2.1) e, congrArg (fun z : AlY => z.2.2) e⟩
def hookY : PySem.W.Hook where
  α := AlY
  obs := fun s => obsY s.heap.get?
  val := fun _ => valY
  says := fun _ h => ∃ K : PySem.W.Frag, K.In h ∧ SaysY K
  of := fun _ _ e => ⟨_, He.frT_in, saysY_of e⟩
  keeps := fun _ _ _ ⟨K, hK, c⟩ k => ⟨K, PySem.W.Frag.In.keeps hK k, c⟩
theorem obsY_eq {g : Addr → Option Obj} {s : Shared} (h : ∀ a, g a = s.heap.get? a) : obsY g = hookY.obs s := by
  have e : g = s.heap.get? := funext h
  rw [e] <;> rfl
end Ls
set_option Elab.async false
set_option linter.all false
set_option maxRecDepth 100000
set_option maxHeartbeats 0
namespace Ls
open PySem PySem.Spec PyProof.Rows L2
abbrev R : PySem.W.OpenRow := PySem.W.OpenLaw.row PySem.Challenge.rw_longstrike_k67_partings_refused
def ob (s : PySem.W.SharedT) : AlY := obsY (HandSHeadRun.getT s)
theorem ob_eq (s : PySem.W.SharedT) : ob s = hookY.obs s.abs := obsY_eq (HandSHeadRun.getT_eq s)
def ns0 : List PySem.Str := ["_wall", "__name__", "StrikeError", "BadName", "NameInUse", "UnknownKind", "BadRule", "UnknownCheck", "UnlikeBooks", "LETTERS", "STRUCK", "is_name", "stands_in", "FALL", "CLEAR", "Column", "check_fresh", "kinds_of", "column_rows_of", "checks_of", "menu_of", "Book", "are_like", "check_like", "known_check", "with_checks", "HERE", "lacking", "Watch", "KindWatch"]
def ns1 : List PySem.Str := ["ColumnWatch", "NUMBERS", "HELPER", "are_apart", "way_apart", "chain_up", "put_chain", "mark_by_chain", "Weaver", "watches_of", "parting", "_law_draw", "_law_pick", "_law_mixed", "_law_fresh", "_law_names", "_law_shape", "_law_all_checks", "_law_checked", "_law_rules", "_law_made", "_law_unlike", "_law_refuses"]
def names : List PySem.Str := ns0 ++ ns1
theorem run0 (w : World) : HandSHeadRun.RunEq R (PySem.W.view R.prog [59]) hookY ob 8000 names (w.withFollow "special-get-raises" false) := by
  intro os
  kernel_rfl
theorem run1 (w : World) : HandSHeadRun.RunEq R (PySem.W.view R.prog [59]) hookY ob 8000 names (w.withFollow "special-get-raises" true) := by
  intro os
  kernel_rfl
theorem run (w : World) : HandSHeadRun.RunEq R (PySem.W.view R.prog [59]) hookY ob 8000 names w := PySem.W.byRow2 "special-get-raises" (P := fun w => HandSHeadRun.RunEq R (PySem.W.view R.prog [59]) hookY ob 8000 names w) run0 run1 w
end Ls
set_option Elab.async false
set_option linter.all false
set_option maxRecDepth 100000
set_option maxHeartbeats 2000000
set_option autoImplicit false
/-! D layer: deep data over the abstract heap. -/
namespace Dl
open PySem PySem.Spec PyProof.Rows L2
/-- a tuple of two texts whose object is known: the token of the second is not 0 and below n -/
def RawL (n : Nat) (H : Hp) (a : Addr) (w c : Str) : Prop := ∃ (o : Obj) (u : Value) (t : Tok) (m : Nat), H a = some (.frz o (.tup [.str w, .str c])) ∧ o.cls = .type "tuple" ∧ o.data = .seq #[u, .str c t] m ∧ t ≠ 0 ∧ t < n
theorem RawL.rd {n : Nat} {H : Hp} {a : Addr} {w c : Str} (h : RawL n H a w c) : ∃ o, H a = some (.frz o (.tup [.str w, .str c])) := let ⟨o, _, _, _, e, _⟩ := h; ⟨o, e⟩
theorem RawL.keep {n : Nat} {H H' : Hp} {a : Addr} {w c : Str} (h : RawL n H a w c) (k : ∀ o, H a = some o → H' a = some o) : RawL n H' a w c := let ⟨o, u, t, m, e, r⟩ := h; ⟨o, u, t, m, k _ e, r⟩
/-- deep data -/
inductive D where
  | raw (n : Nat) (w c : Str)
  | v (x : V)
  | lst (xs : List D)
  | tup (xs : List D)
  | dic (ks : List Key) (xs : List D)
  | dit (ks : List (List Key)) (xs : List D)
  | obj (C : Addr) (ns : List Str) (xs : List D)
/-- what a mutable cell holds -/
inductive MO where
  | lst (xs : List D)
  | dic (ks : List Key) (xs : List D)
  | dit (ks : List (List Key)) (xs : List D)
  | obj (C : Addr) (ns : List Str) (xs : List D)
abbrev DEnv := List (Option D)
abbrev G := List (Addr × MO)
section
variable (M : Addr → Prop) (H : Hp)
mutual
/-- the value v of the heap H bears the data d, away from the mutable cells M -/
def Rep : D → V → Prop
  | .raw n w c, v => ∃ a, v = .ref a ∧ ¬ M a ∧ RawL n H a w c
  | .v x, v => v = x
  | .lst xs, v => ∃ a vs, v = .ref a ∧ ¬ M a ∧ H a = some (.lst vs) ∧ Reps xs vs
  | .tup xs, v => ∃ a vs, v = .ref a ∧ ¬ M a ∧ H a = some (.tup vs) ∧ Reps xs vs
  | .dic ks xs, v => ∃ a o vs, v = .ref a ∧ ¬ M a ∧ H a = some (.frz o (.dK (ks.zip vs))) ∧ ks.length = xs.length ∧ Reps xs vs
  | .dit ks xs, v => ∃ a o vs, v = .ref a ∧ ¬ M a ∧ H a = some (.frz o (.dT (ks.zip vs))) ∧ ks.length = xs.length ∧ Reps xs vs
  | .obj C ns xs, v => ∃ a dx vs, v = .ref a ∧ ¬ M a ∧ H a = some (.ins C dx (ns.zip vs)) ∧ ns.length = xs.length ∧ Reps xs vs
def Reps : List D → List V → Prop
  | [], vs => vs = []
  | d :: ds, vs => ∃ u us, vs = u :: us ∧ Rep d u ∧ Reps ds us
end
end
/-- what is read stays -/
structure Leq (M M' : Addr → Prop) (H H' : Hp) : Prop where
  st : ∀ a o, ¬ M a → H a = some o → H' a = some o
  m : ∀ a, ¬ M a → H a ≠ none → ¬ M' a
theorem Leq.refl {M : Addr → Prop} {H : Hp} : Leq M M H H := ⟨fun _ _ _ h => h, fun _ h _ => h⟩
theorem Leq.of {M M' : Addr → Prop} {H H' : Hp} (h : ∀ a o, ¬ M a → H a = some o → H' a = some o) (m : ∀ a, ¬ M a → H a ≠ none → ¬ M' a) : Leq M M' H H' := ⟨h, m⟩
theorem Leq.ne {M M' : Addr → Prop} {H H' : Hp} {a : Addr} {o : HO} (l : Leq M M' H H') (n : ¬ M a) (e : H a = some o) : ¬ M' a := l.m a n (by rw [e]; simp)
section
variable {M M' : Addr → Prop} {H H' : Hp}
mutual
theorem Rep.mono (l : Leq M M' H H') : ∀ {d : D} {v : V}, Rep M H d v → Rep M' H' d v
  | .raw n w c, v, h => by
    obtain ⟨a, e, m, r⟩ := h
    obtain ⟨o, ho⟩ := r.rd
    exact ⟨a, e, l.ne m ho, r.keep fun o e => l.st a o m e⟩
  | .v _, _, h => h
  | .lst xs, v, h => by
    obtain ⟨a, vs, e, n, r, q⟩ := h
    exact ⟨a, vs, e, l.ne n r, l.st a _ n r, Reps.mono l q⟩
  | .tup xs, v, h => by
    obtain ⟨a, vs, e, n, r, q⟩ := h
    exact ⟨a, vs, e, l.ne n r, l.st a _ n r, Reps.mono l q⟩
  | .dic ks xs, v, h => by
    obtain ⟨a, o, vs, e, n, r, hl, q⟩ := h
    exact ⟨a, o, vs, e, l.ne n r, l.st a _ n r, hl, Reps.mono l q⟩
  | .dit ks xs, v, h => by
    obtain ⟨a, o, vs, e, n, r, hl, q⟩ := h
    exact ⟨a, o, vs, e, l.ne n r, l.st a _ n r, hl, Reps.mono l q⟩
  | .obj C ns xs, v, h => by
    obtain ⟨a, dx, vs, e, n, r, hl, q⟩ := h
    exact ⟨a, dx, vs, e, l.ne n r, l.st a _ n r, hl, Reps.mono l q⟩
theorem Reps.mono (l : Leq M M' H H') : ∀ {ds : List D} {vs : List V}, Reps M H ds vs → Reps M' H' ds vs
  | [], _, h => h
  | d :: ds, vs, h => by
    obtain ⟨u, us, e, r, q⟩ := h
    exact ⟨u, us, e, Rep.mono l r, Reps.mono l q⟩
end
theorem Reps.length : ∀ {ds : List D} {vs : List V}, Reps M H ds vs → vs.length = ds.length
  | [], _, h => by rw [show _ = [] from h]; rfl
  | d :: ds, vs, h => by
    obtain ⟨u, us, e, r, q⟩ := h
    rw [e]; simp [Reps.length q]
theorem Reps.get : ∀ {ds : List D} {vs : List V} {i : Nat} {d : D}, Reps M H ds vs → ds[i]? = some d → ∃ v, vs[i]? = some v ∧ Rep M H d v
  | [], _, i, _, _, e => by simp at e
  | d :: ds, vs, i, d', h, e => by
    obtain ⟨u, us, rfl, r, q⟩ := h
    cases i with
    | zero => simp at e; subst e; exact ⟨u, rfl, r⟩
    | succ i =>
      obtain ⟨v, h1, h2⟩ := Reps.get (i := i) q (by simpa using e)
      exact ⟨v, by simpa using h1, h2⟩
theorem Reps.getV : ∀ {ds : List D} {vs : List V} {i : Nat} {v : V}, Reps M H ds vs → vs[i]? = some v → ∃ d, ds[i]? = some d ∧ Rep M H d v := fun {ds vs i v} h e => by
  have hl := h.length
  have hi := (List.getElem?_eq_some_iff.mp e).1
  have e' : ds[i]? = some (ds[i]'(by omega)) := by simp [show i < ds.length by omega]
  obtain ⟨v', h1, h2⟩ := h.get e'
  rw [e] at h1; cases h1
  exact ⟨_, e', h2⟩
theorem Reps.append : ∀ {ds es : List D} {vs ws : List V}, Reps M H ds vs → Reps M H es ws → Reps M H (ds ++ es) (vs ++ ws)
  | [], es, vs, ws, h, q => by rw [show vs = [] from h]; exact q
  | d :: ds, es, vs, ws, h, q => by
    obtain ⟨u, us, e, r, p⟩ := h
    rw [e]
    exact ⟨u, us ++ ws, rfl, r, Reps.append p q⟩
theorem Reps.one {d : D} {v : V} (h : Rep M H d v) : Reps M H [d] [v] := ⟨v, [], rfl, h, rfl⟩
theorem Reps.cons {d : D} {v : V} {ds : List D} {vs : List V} (h : Rep M H d v) (q : Reps M H ds vs) : Reps M H (d :: ds) (v :: vs) := ⟨v, vs, rfl, h, q⟩
theorem Reps.nil : Reps M H [] [] := rfl
theorem Reps.of_get : ∀ {ds : List D} {vs : List V}, vs.length = ds.length → (∀ (i : Nat) d v, ds[i]? = some d → vs[i]? = some v → Rep M H d v) → Reps M H ds vs
  | [], vs, hl, _ => by
    cases vs with
    | nil => rfl
    | cons _ _ => simp at hl
  | d :: ds, vs, hl, h => by
    cases vs with
    | nil => simp at hl
    | cons v vs => exact ⟨v, vs, rfl, h 0 d v rfl rfl, Reps.of_get (by simpa using hl) fun i d' v' e1 e2 => h (i + 1) d' v' (by simpa using e1) (by simpa using e2)⟩
theorem Reps.take : ∀ {ds : List D} {vs : List V} (n : Nat), Reps M H ds vs → Reps M H (ds.take n) (vs.take n)
  | _, _, 0, _ => by simp; rfl
  | [], vs, n + 1, h => by rw [show vs = [] from h]; simp; rfl
  | d :: ds, vs, n + 1, h => by
    obtain ⟨u, us, e, r, q⟩ := h
    rw [e]
    exact ⟨u, us.take n, rfl, r, Reps.take n q⟩
theorem Reps.drop : ∀ {ds : List D} {vs : List V} (n : Nat), Reps M H ds vs → Reps M H (ds.drop n) (vs.drop n)
  | _, _, 0, h => h
  | [], vs, n + 1, h => by rw [show vs = [] from h]; simp; rfl
  | d :: ds, vs, n + 1, h => by
    obtain ⟨u, us, e, r, q⟩ := h
    rw [e]
    exact Reps.drop n q
theorem Reps.set : ∀ {ds : List D} {vs : List V} {d : D} {v : V} (i : Nat), Rep M H d v → Reps M H ds vs → Reps M H (ds.set i d) (vs.set i v)
  | [], vs, _, _, i, _, h => by rw [show vs = [] from h]; simp; rfl
  | d :: ds, vs, d', v', 0, r, h => by
    obtain ⟨u, us, e, _, q⟩ := h
    rw [e]
    exact ⟨v', us, rfl, r, q⟩
  | d :: ds, vs, d', v', i + 1, r, h => by
    obtain ⟨u, us, e, r', q⟩ := h
    rw [e]
    exact ⟨u, us.set i v', rfl, r', Reps.set i r q⟩
theorem Reps.eraseIdx : ∀ {ds : List D} {vs : List V} (i : Nat), Reps M H ds vs → Reps M H (ds.eraseIdx i) (vs.eraseIdx i)
  | [], vs, i, h => by rw [show vs = [] from h]; simp; rfl
  | d :: ds, vs, 0, h => by
    obtain ⟨u, us, e, _, q⟩ := h
    rw [e]
    exact q
  | d :: ds, vs, i + 1, h => by
    obtain ⟨u, us, e, r', q⟩ := h
    rw [e]
    exact ⟨u, us.eraseIdx i, rfl, r', Reps.eraseIdx i q⟩
/-- flat data is its value -/
theorem Reps.flat : ∀ {xs : List V} {vs : List V}, Reps M H (xs.map D.v) vs → vs = xs
  | [], _, h => h
  | x :: xs, vs, h => by
    obtain ⟨u, us, e, r, q⟩ := h
    rw [e, show u = x from r, Reps.flat q]
theorem Reps.flatI : ∀ {xs : List V}, Reps M H (xs.map D.v) xs
  | [] => rfl
  | x :: xs => ⟨x, xs, rfl, rfl, Reps.flatI⟩
end
def MRep (M : Addr → Prop) (H : Hp) : MO → HO → Prop
  | .lst xs, o => ∃ vs, o = .lst vs ∧ Reps M H xs vs
  | .dic ks xs, o => ∃ vs, o = .dK (ks.zip vs) ∧ ks.length = xs.length ∧ Reps M H xs vs
  | .dit ks xs, o => ∃ vs, o = .dT (ks.zip vs) ∧ ks.length = xs.length ∧ Reps M H xs vs
  | .obj C ns xs, o => ∃ dx vs, o = .ins C dx (ns.zip vs) ∧ ns.length = xs.length ∧ Reps M H xs vs
theorem MRep.mono {M M' : Addr → Prop} {H H' : Hp} (l : Leq M M' H H') {m : MO} {o : HO} (h : MRep M H m o) : MRep M' H' m o := by
  cases m with
  | lst xs => obtain ⟨vs, e, q⟩ := h; exact ⟨vs, e, q.mono l⟩
  | dic ks xs => obtain ⟨vs, e, hl, q⟩ := h; exact ⟨vs, e, hl, q.mono l⟩
  | dit ks xs => obtain ⟨vs, e, hl, q⟩ := h; exact ⟨vs, e, hl, q.mono l⟩
  | obj C ns xs => obtain ⟨dx, vs, e, hl, q⟩ := h; exact ⟨dx, vs, e, hl, q.mono l⟩
abbrev ks (g : G) : List Addr := g.map (·.1)
def MM (M : Addr → Prop) (g : G) : Addr → Prop := fun a => M a ∨ a ∈ ks g
/-- the mutable cells hold what is said -/
structure Cok (M : Addr → Prop) (g : G) (H : Hp) : Prop where
  cells : ∀ a m, (a, m) ∈ g → ∃ o, H a = some o ∧ MRep (MM M g) H m o
  nd : (ks g).Nodup
  dom : ∀ a, M a → H a ≠ none
  dis : ∀ a, a ∈ ks g → ¬ M a
structure Sok (M : Addr → Prop) (env : DEnv) (g : G) (σ : L2.St) (H : Hp) : Prop extends Cok M g H where
  len : σ.length = env.length
  slots : ∀ (i : Nat) d, env[i]? = some (some d) → ∃ v, σ[i]? = some (some v) ∧ Rep (MM M g) H d v
/-- from (g, H) to (g', H') -/
structure Tr (g : G) (H : Hp) (g' : G) (H' : Hp) : Prop where
  kp : ∀ a o, H a = some o → a ∉ ks g → H' a = some o
  th : ∀ a, H a ≠ none → H' a ≠ none
  nw : ∀ a, a ∈ ks g' → a ∈ ks g ∨ H a = none
theorem Tr.refl {g : G} {H : Hp} : Tr g H g H := ⟨fun _ _ e _ => e, fun _ h => h, fun _ h => .inl h⟩
theorem Tr.trans {g g1 g2 : G} {H H1 H2 : Hp} (x : Tr g H g1 H1) (y : Tr g1 H1 g2 H2) : Tr g H g2 H2 := by
  refine ⟨fun a o e n => y.kp a o (x.kp a o e n) fun z => ?_, fun a h => y.th a (x.th a h), fun a h => ?_⟩
  · rcases x.nw a z with q | q
    · exact n q
    · rw [e] at q; cases q
  · rcases y.nw a h with q | q
    · exact x.nw a q
    · by_cases e : H a = none
      · exact .inr e
      · exact absurd q (x.th a e)
theorem Tr.ex {g : G} {H H' : Hp} (h : ∀ a o, H a = some o → H' a = some o) : Tr g H g H' :=
  ⟨fun a o e _ => h a o e, fun a n => by
    cases e : H a with
    | none => exact absurd e n
    | some o => rw [h a o e]; simp, fun _ h => .inl h⟩
theorem ex_new {H : Hp} {p : Addr} {o : HO} (h : H p = none) : ∀ a u, H a = some u → upd H p o a = some u := fun a u e => by
  rw [upd_ne (ne_of_none e h)]; exact e
theorem Tr.new {g : G} {H : Hp} {p : Addr} {o : HO} (h : H p = none) : Tr g H g (upd H p o) := .ex (ex_new h)
theorem Tr.leq {M : Addr → Prop} {g g' : G} {H H' : Hp} (t : Tr g H g' H') (s : ∀ a, M a → H a ≠ none) : Leq (MM M g) (MM M g') H H' :=
  .of (fun a o n e => t.kp a o e fun z => n (.inr z)) fun a n e z => by
    rcases z with z | z
    · exact n (.inl z)
    · rcases t.nw a z with q | q
      · exact n (.inr q)
      · exact e q
theorem Tr.rep {M : Addr → Prop} {g g' : G} {H H' : Hp} {d : D} {v : V} (t : Tr g H g' H') (s : ∀ a, M a → H a ≠ none) (r : Rep (MM M g) H d v) : Rep (MM M g') H' d v := r.mono (t.leq s)
theorem Tr.reps {M : Addr → Prop} {g g' : G} {H H' : Hp} {d : List D} {v : List V} (t : Tr g H g' H') (s : ∀ a, M a → H a ≠ none) (r : Reps (MM M g) H d v) : Reps (MM M g') H' d v := r.mono (t.leq s)
theorem Cok.grow {M : Addr → Prop} {g : G} {H H' : Hp} (s : Cok M g H) (h : ∀ a o, H a = some o → H' a = some o) : Cok M g H' := by
  have t : Tr g H g H' := .ex h
  refine ⟨fun a m e => ?_, s.nd, fun a z => t.th a (s.dom a z), s.dis⟩
  obtain ⟨o, h1, h2⟩ := s.cells a m e
  exact ⟨o, h a o h1, h2.mono (t.leq s.dom)⟩
/-- the slots behind a step -/
theorem Sok.to {M : Addr → Prop} {env : DEnv} {g g' : G} {σ : L2.St} {H H' : Hp} (s : Sok M env g σ H) (t : Tr g H g' H') (c : Cok M g' H') : Sok M env g' σ H' :=
  { c with len := s.len, slots := fun i d e => let ⟨v, h1, h2⟩ := s.slots i d e; ⟨v, h1, t.rep s.dom h2⟩ }
/-- the state grows: nothing that is known changes -/
theorem Sok.grow {M : Addr → Prop} {env : DEnv} {g : G} {σ : L2.St} {H H' : Hp} (s : Sok M env g σ H) (h : ∀ a o, H a = some o → H' a = some o) : Sok M env g σ H' :=
  s.to (.ex h) (s.toCok.grow h)
theorem Sok.set {M : Addr → Prop} {env : DEnv} {g : G} {σ : L2.St} {H : Hp} {i : Nat} {d : D} {v : V} (s : Sok M env g σ H) (r : Rep (MM M g) H d v) : Sok M (env.set i (some d)) g (σ.set i (some v)) H := by
  refine { s.toCok with len := by simpa using s.len, slots := fun j d' e => ?_ }
  by_cases hj : j = i
  · subst hj
    have hl : j < env.length := by
      have := (List.getElem?_eq_some_iff.mp e).1
      simpa using this
    rw [List.getElem?_set_self hl] at e
    cases e
    exact ⟨v, by rw [List.getElem?_set_self (by rw [s.len]; exact hl)], r⟩
  · rw [List.getElem?_set_ne (Ne.symm hj)] at e
    obtain ⟨v', h1, h2⟩ := s.slots j d' e
    exact ⟨v', by rw [List.getElem?_set_ne (Ne.symm hj)]; exact h1, h2⟩
/-! ### expressions, tests, arguments at the level of data -/
def YE (te : TE) (env : DEnv) (g : G) (Ψ : D → G → Prop) : Prop := ∀ M σ H, Sok M env g σ H → ∀ Q : VK,
  (∀ d g' v H', Ψ d g' → Tr g H g' H' → Cok M g' H' → Rep (MM M g') H' d v → Q v H') → te σ H Q
def YT (tt : TT) (env : DEnv) (g : G) (Ψ : Bool → G → Prop) : Prop := ∀ M σ H, Sok M env g σ H → ∀ Q : Bool → Hp → Prop,
  (∀ b g' H', Ψ b g' → Tr g H g' H' → Cok M g' H' → Q b H') → tt σ H Q
def YA (ta : TA) (env : DEnv) (g : G) (Ψ : List D → G → Prop) : Prop := ∀ M σ H, Sok M env g σ H → ∀ Q : List V → Hp → Prop,
  (∀ ds g' vs H', Ψ ds g' → Tr g H g' H' → Cok M g' H' → Reps (MM M g') H' ds vs → Q vs H') → ta σ H Q
def YO (to : TO) (env : DEnv) (g : G) (Ψ : Option Int → G → Prop) : Prop := ∀ M σ H, Sok M env g σ H → ∀ Q : Option Int → Hp → Prop,
  (∀ b g' H', Ψ b g' → Tr g H g' H' → Cok M g' H' → Q b H') → to σ H Q
/-- an operation on values, by data -/
def RD (r : R2) (x y : D) (g : G) (Ψ : D → G → Prop) : Prop := ∀ M H, Cok M g H → ∀ u w, Rep (MM M g) H x u → Rep (MM M g) H y w → ∀ Q : VK,
  (∀ d g' v H', Ψ d g' → Tr g H g' H' → Cok M g' H' → Rep (MM M g') H' d v → Q v H') → r u w H Q
def RU (r : V → Hp → VK → Prop) (x : D) (g : G) (Ψ : D → G → Prop) : Prop := ∀ M H, Cok M g H → ∀ u, Rep (MM M g) H x u → ∀ Q : VK,
  (∀ d g' v H', Ψ d g' → Tr g H g' H' → Cok M g' H' → Rep (MM M g') H' d v → Q v H') → r u H Q
def RC (r : List V → Hp → VK → Prop) (xs : List D) (g : G) (Ψ : D → G → Prop) : Prop := ∀ M H, Cok M g H → ∀ us, Reps (MM M g) H xs us → ∀ Q : VK,
  (∀ d g' v H', Ψ d g' → Tr g H g' H' → Cok M g' H' → Rep (MM M g') H' d v → Q v H') → r us H Q
def RM (r : V → List V → Hp → VK → Prop) (x : D) (xs : List D) (g : G) (Ψ : D → G → Prop) : Prop := ∀ M H, Cok M g H → ∀ u us, Rep (MM M g) H x u → Reps (MM M g) H xs us → ∀ Q : VK,
  (∀ d g' v H', Ψ d g' → Tr g H g' H' → Cok M g' H' → Rep (MM M g') H' d v → Q v H') → r u us H Q
def RTy (K : PySem.W.Frag) (T : String) (x : D) (g : G) : Prop := ∀ M H, Cok M g H → ∀ u, Rep (MM M g) H x u → tyV K T u H
structure DE where
  nx : DEnv → G → Prop
  rt : D → G → Prop
  bk : DEnv → G → Prop := fun _ _ => False
  ct : DEnv → G → Prop := fun _ _ => False
structure Fits (M : Addr → Prop) (g : G) (H : Hp) (E : DE) (Z : Ends) : Prop where
  nx : ∀ env' g' σ' H', E.nx env' g' → Tr g H g' H' → Sok M env' g' σ' H' → Z.nx σ' H'
  rt : ∀ d g' v H', E.rt d g' → Tr g H g' H' → Cok M g' H' → Rep (MM M g') H' d v → Z.rt v H'
  bk : ∀ env' g' σ' H', E.bk env' g' → Tr g H g' H' → Sok M env' g' σ' H' → Z.bk σ' H'
  ct : ∀ env' g' σ' H', E.ct env' g' → Tr g H g' H' → Sok M env' g' σ' H' → Z.ct σ' H'
def WS (ts : TS) (env : DEnv) (g : G) (E : DE) : Prop := ∀ M σ H, Sok M env g σ H → ∀ Z : Ends, Fits M g H E Z → ts Z σ H
def WG (gt : TG) (d : D) (env : DEnv) (g : G) (Ψ : DEnv → G → Prop) : Prop := ∀ M σ H, Sok M env g σ H → ∀ v, Rep (MM M g) H d v → ∀ Q : L2.St → Hp → Prop,
  (∀ env' g' σ' H', Ψ env' g' → Tr g H g' H' → Sok M env' g' σ' H' → Q σ' H') → gt v σ H Q
/-! ### the rules: expressions -/
section
variable {env : DEnv} {g : G} {te ta tb : TE} {tt tu : TT} {Ψ : D → G → Prop} {Φ : Bool → G → Prop}
theorem YE.mono {Ψ' : D → G → Prop} (h : YE te env g Ψ) (k : ∀ d g', Ψ d g' → Ψ' d g') : YE te env g Ψ' := fun M σ H s Q q => h M σ H s Q fun d g' v H' p => q d g' v H' (k d g' p)
theorem YT.mono {Φ' : Bool → G → Prop} (h : YT tt env g Φ) (k : ∀ d g', Φ d g' → Φ' d g') : YT tt env g Φ' := fun M σ H s Q q => h M σ H s Q fun d g' H' p => q d g' H' (k d g' p)
theorem ye_var {i : Nat} {d : D} (h : env[i]? = some (some d)) (q : Ψ d g) : YE (tVar i) env g Ψ := fun M σ H s Q k => let ⟨v, h1, r⟩ := s.slots i d h; ⟨v, h1, k d g v H q .refl s.toCok r⟩
theorem ye_c {x : V} (q : Ψ (.v x) g) : YE (tC x) env g Ψ := fun M σ H s Q k => k _ g x H q .refl s.toCok rfl
theorem ye_op {r : R2} (h : YE ta env g fun x g1 => YE tb env g1 fun y g2 => RD r x y g2 Ψ) : YE (tOp r ta tb) env g Ψ := fun M σ H s Q k =>
  h M σ H s _ fun x g1 u H1 h1 t1 c1 r1 => h1 M σ H1 (s.to t1 c1) _ fun y g2 w H2 h2 t2 c2 r2 => h2 M H2 c2 u w (t2.rep c1.dom r1) r2 Q fun d g' v H' q t c r' => k d g' v H' q ((t1.trans t2).trans t) c r'
theorem ye_un {r : V → Hp → VK → Prop} (h : YE ta env g fun x g1 => RU r x g1 Ψ) : YE (tUn r ta) env g Ψ := fun M σ H s Q k =>
  h M σ H s _ fun x g1 u H1 h1 t1 c1 r1 => h1 M H1 c1 u r1 Q fun d g' v H' q t c r' => k d g' v H' q (t1.trans t) c r'
theorem ye_if (h : YT tt env g fun b g1 => if b = true then YE ta env g1 Ψ else YE tb env g1 Ψ) : YE (tIf tt ta tb) env g Ψ := fun M σ H s Q k =>
  h M σ H s _ fun b g1 H1 h1 t1 c1 => by
    cases b with
    | true => exact (show YE ta env g1 Ψ from h1) M σ H1 (s.to t1 c1) Q fun d g' v H' q t c r => k d g' v H' q (t1.trans t) c r
    | false => exact (show YE tb env g1 Ψ from h1) M σ H1 (s.to t1 c1) Q fun d g' v H' q t c r => k d g' v H' q (t1.trans t) c r
theorem ye_andV (h : YE ta env g fun x g1 => ∃ c, x = .v (.bl c) ∧ if c = true then YE tb env g1 Ψ else Ψ (.v (.bl false)) g1) : YE (tAndV ta tb) env g Ψ := fun M σ H s Q k =>
  h M σ H s _ fun x g1 u H1 ⟨b, e, h1⟩ t1 c1 r1 => by
    subst e
    refine ⟨b, r1, ?_⟩
    cases b with
    | true => exact (show YE tb env g1 Ψ from h1) M σ H1 (s.to t1 c1) Q fun d g' v H' q t c r => k d g' v H' q (t1.trans t) c r
    | false => exact k _ g1 _ H1 h1 t1 c1 rfl
theorem ye_orV (h : YE ta env g fun x g1 => ∃ c, x = .v (.bl c) ∧ if c = true then Ψ (.v (.bl true)) g1 else YE tb env g1 Ψ) : YE (tOrV ta tb) env g Ψ := fun M σ H s Q k =>
  h M σ H s _ fun x g1 u H1 ⟨b, e, h1⟩ t1 c1 r1 => by
    subst e
    refine ⟨b, r1, ?_⟩
    cases b with
    | true => exact k _ g1 _ H1 h1 t1 c1 rfl
    | false => exact (show YE tb env g1 Ψ from h1) M σ H1 (s.to t1 c1) Q fun d g' v H' q t c r => k d g' v H' q (t1.trans t) c r
theorem ye_notV (h : YE ta env g fun x g1 => ∃ c, x = .v (.bl c) ∧ Ψ (.v (.bl !c)) g1) : YE (tNotV ta) env g Ψ := fun M σ H s Q k =>
  h M σ H s _ fun x g1 u H1 ⟨b, e, h1⟩ t1 c1 r1 => by
    subst e
    exact ⟨b, r1, k _ g1 _ H1 h1 t1 c1 rfl⟩
/-! tests -/
theorem yt_B (h : YE te env g fun d g1 => ∃ b, d = .v (.bl b) ∧ Φ b g1) : YT (tB te) env g Φ := fun M σ H s Q k =>
  h M σ H s _ fun d g1 v H1 ⟨b, e, h1⟩ t1 c1 r1 => by
    subst e
    exact ⟨b, r1, k b g1 H1 h1 t1 c1⟩
theorem yt_test (h : YE te env g fun d g1 => ∃ b, d = .v (.bl b) ∧ Φ b g1) : YT (tTest te) env g Φ := yt_B h
theorem yt_and (h : YT tt env g fun b g1 => if b = true then YT tu env g1 Φ else Φ false g1) : YT (tAnd tt tu) env g Φ := fun M σ H s Q k =>
  h M σ H s _ fun b g1 H1 h1 t1 c1 => by
    cases b with
    | true => exact (show YT tu env g1 Φ from h1) M σ H1 (s.to t1 c1) Q fun d g' H' q t c => k d g' H' q (t1.trans t) c
    | false => exact k _ g1 H1 h1 t1 c1
theorem yt_or (h : YT tt env g fun b g1 => if b = true then Φ true g1 else YT tu env g1 Φ) : YT (tOr tt tu) env g Φ := fun M σ H s Q k =>
  h M σ H s _ fun b g1 H1 h1 t1 c1 => by
    cases b with
    | true => exact k _ g1 H1 h1 t1 c1
    | false => exact (show YT tu env g1 Φ from h1) M σ H1 (s.to t1 c1) Q fun d g' H' q t c => k d g' H' q (t1.trans t) c
theorem yt_not (h : YT tt env g fun b g1 => Φ (!b) g1) : YT (tNot tt) env g Φ := fun M σ H s Q k => h M σ H s _ fun b g1 H1 h1 t1 c1 => k _ g1 H1 h1 t1 c1
theorem yt_yes (h : Φ true g) : YT tYes env g Φ := fun M σ H s Q k => k true g H h .refl s.toCok
/-! arguments -/
variable {tr : TA} {Λ : List D → G → Prop}
theorem ya_nil (q : Λ [] g) : YA tNil env g Λ := fun M σ H s Q k => k [] g [] H q .refl s.toCok .nil
theorem ya_cons (h : YE ta env g fun d g1 => YA tr env g1 fun ds g2 => Λ (d :: ds) g2) : YA (tCons ta tr) env g Λ := fun M σ H s Q k =>
  h M σ H s _ fun d g1 v H1 h1 t1 c1 r1 => h1 M σ H1 (s.to t1 c1) _ fun ds g2 vs H2 h2 t2 c2 r2 => k (d :: ds) g2 (v :: vs) H2 h2 (t1.trans t2) c2 (.cons (t2.rep c1.dom r1) r2)
/-- a new object that bears immutable data -/
theorem new_rep {M : Addr → Prop} {H : Hp} {p : Addr} (c : Cok M g H) (hp : H p = none) : ¬ MM M g p := fun z => by
  rcases z with z | z
  · exact c.dom p z hp
  · obtain ⟨⟨a, m⟩, hm, e⟩ := List.mem_map.mp z
    obtain ⟨o, h1, _⟩ := c.cells a m hm
    rw [show a = p from e, hp] at h1
    cases h1
theorem ye_tup (h : YA tr env g fun ds g1 => ds.length ≤ 1000000 ∧ Ψ (.tup ds) g1) : YE (tTup tr) env g Ψ := fun M σ H s Q k =>
  h M σ H s _ fun ds g1 vs H1 ⟨hl, h1⟩ t1 c1 r1 => ⟨by rw [r1.length, sizeLine_eq]; omega, fun p hp => k _ g1 _ _ h1 (t1.trans (.new hp)) (c1.grow (ex_new hp))
    ⟨p, vs, rfl, new_rep c1 hp, upd_same, r1.mono ((Tr.new (g := g1) hp).leq c1.dom)⟩⟩
theorem ye_lst (h : YA tr env g fun ds g1 => ds.length ≤ 1000000 ∧ Ψ (.lst ds) g1) : YE (tLst tr) env g Ψ := fun M σ H s Q k =>
  h M σ H s _ fun ds g1 vs H1 ⟨hl, h1⟩ t1 c1 r1 => ⟨by rw [r1.length, sizeLine_eq]; omega, fun p hp => k _ g1 _ _ h1 (t1.trans (.new hp)) (c1.grow (ex_new hp))
    ⟨p, vs, rfl, new_rep c1 hp, upd_same, r1.mono ((Tr.new (g := g1) hp).leq c1.dom)⟩⟩
end
end Dl
set_option Elab.async false
set_option linter.all false
set_option maxRecDepth 100000
set_option maxHeartbeats 2000000
set_option autoImplicit false
namespace Dl
open PySem PySem.Spec PyProof.Rows L2
/-! ### views: a list, a dict, immutable or a cell -/
inductive LV (g : G) : D → List D → Prop
  | im (xs : List D) : LV g (.lst xs) xs
  | mu (a : Addr) (xs : List D) (h : (a, MO.lst xs) ∈ g) : LV g (.v (.ref a)) xs
inductive TV (g : G) : D → List D → Prop
  | im (xs : List D) : TV g (.tup xs) xs
inductive SV (g : G) : D → List D → Prop
  | l (d : D) (xs : List D) (h : LV g d xs) : SV g d xs
  | t (xs : List D) : SV g (.tup xs) xs
  | r (n : Nat) (w c : Str) : SV g (.raw n w c) [.v (.str w), .v (.str c)]
section
variable {M : Addr → Prop} {g : G} {H : Hp} {d : D} {u : V} {xs : List D}
theorem LV.at (c : Cok M g H) (r : Rep (MM M g) H d u) (l : LV g d xs) : ∃ a vs, u = .ref a ∧ H a = some (.lst vs) ∧ Reps (MM M g) H xs vs := by
  cases l with
  | im => obtain ⟨a, vs, e, n, h, q⟩ := r; exact ⟨a, vs, e, h, q⟩
  | mu a xs h =>
    obtain ⟨o, h1, vs, e, q⟩ := c.cells a _ h
    subst e
    exact ⟨a, vs, r, h1, q⟩
theorem SV.at (K : PySem.W.Frag) (c : Cok M g H) (r : Rep (MM M g) H d u) (l : SV g d xs) : ∃ a vs, u = .ref a ∧ (SqL K H a vs ∨ SqT K H a vs) ∧ Reps (MM M g) H xs vs := by
  cases l with
  | l _ _ h => obtain ⟨a, vs, e, h1, q⟩ := h.at c r; exact ⟨a, vs, e, .inl (.of h1), q⟩
  | t => obtain ⟨a, vs, e, n, h, q⟩ := r; exact ⟨a, vs, e, .inr (.of h), q⟩
  | r n w c =>
    obtain ⟨a, e, _, h⟩ := r
    obtain ⟨o, ho⟩ := h.rd
    exact ⟨a, _, e, .inr (.inl (.inr ⟨o, ho⟩)), ⟨_, _, rfl, rfl, _, _, rfl, rfl, rfl⟩⟩
end
/-! ### operators -/
section
variable {g : G} {Ψ : D → G → Prop} {r r' : R2} {x y : D}
def rOr (r r' : R2) : R2 := fun x y H Q => r x y H Q ∨ r' x y H Q
theorem rd_l (h : RD r x y g Ψ) : RD (rOr r r') x y g Ψ := fun M H c u w ru rw Q k => .inl (h M H c u w ru rw Q k)
theorem rd_r (h : RD r' x y g Ψ) : RD (rOr r r') x y g Ψ := fun M H c u w ru rw Q k => .inr (h M H c u w ru rw Q k)
theorem rd_flat {a b z : V} (h : ∀ (H : Hp) (Q : VK), Q z H → r a b H Q) (q : Ψ (.v z) g) : RD r (.v a) (.v b) g Ψ := fun M H c u w ru rw Q k => by
  rw [show u = a from ru, show w = b from rw]
  exact h H Q (k _ g z H q .refl c rfl)
theorem rd_eq {a b : V} (hs : scal a b = true) (q : Ψ (.v (.bl (decide (a = b)))) g) : RD rEq (.v a) (.v b) g Ψ := rd_flat (fun H Q h => ⟨hs, h⟩) q
theorem rd_ne {a b : V} (hs : scal a b = true) (q : Ψ (.v (.bl (!decide (a = b)))) g) : RD rNe (.v a) (.v b) g Ψ := rd_flat (fun H Q h => ⟨hs, h⟩) q
theorem rd_I0 {f : Int → Int → V} {i j : Int} (q : Ψ (.v (f i j)) g) : RD (rI0 f) (.v (.int i)) (.v (.int j)) g Ψ := rd_flat (fun H Q h => ⟨i, j, rfl, rfl, h⟩) q
theorem rd_I {C : Int → Int → Prop} {f : Int → Int → V} {i j : Int} (hc : C i j) (q : Ψ (.v (f i j)) g) : RD (rI C f) (.v (.int i)) (.v (.int j)) g Ψ := rd_flat (fun H Q h => ⟨i, j, rfl, rfl, hc, h⟩) q
def rCatS : R2 := fun x y H Q => ∃ i j, x = .str i ∧ y = .str j ∧ i.length + j.length ≤ sizeLine ∧ Q (.str (i ++ j)) H
theorem rd_catS {i j : Str} (hl : i.length + j.length ≤ sizeLine) (q : Ψ (.v (.str (i ++ j))) g) : RD rCatS (.v (.str i)) (.v (.str j)) g Ψ := rd_flat (fun H Q h => ⟨i, j, rfl, rfl, hl, h⟩) q
/-- is None, is not None -/
def rIsN : R2 := fun x y H Q => y = .non ∧ Q (.bl (decide (x = .non))) H
def rNotN : R2 := fun x y H Q => y = .non ∧ Q (.bl (!decide (x = .non))) H
/-- whether data is None -/
def D.isN : D → Bool
  | .v .non => true
  | _ => false
theorem Rep.isN {M : Addr → Prop} {H : Hp} : ∀ {d : D} {u : V}, Rep M H d u → decide (u = .non) = d.isN
  | .v x, u, h => by
    rw [show u = x from h]
    cases x <;> rfl
  | .raw _ _ _, u, h => by obtain ⟨a, e, _⟩ := h; rw [e]; rfl
  | .lst _, u, h => by obtain ⟨a, vs, e, _⟩ := h; rw [e]; rfl
  | .tup _, u, h => by obtain ⟨a, vs, e, _⟩ := h; rw [e]; rfl
  | .dic _ _, u, h => by obtain ⟨a, o, vs, e, _⟩ := h; rw [e]; rfl
  | .dit _ _, u, h => by obtain ⟨a, o, vs, e, _⟩ := h; rw [e]; rfl
  | .obj _ _ _, u, h => by obtain ⟨a, o, vs, e, _⟩ := h; rw [e]; rfl
theorem rd_isN (q : Ψ (.v (.bl x.isN)) g) : RD rIsN x (.v .non) g Ψ := fun M H c u w ru rw Q k => ⟨rw, by rw [ru.isN]; exact k _ g _ H q .refl c rfl⟩
theorem rd_notN (q : Ψ (.v (.bl !x.isN)) g) : RD rNotN x (.v .non) g Ψ := fun M H c u w ru rw Q k => ⟨rw, by rw [ru.isN]; exact k _ g _ H q .refl c rfl⟩
/-- x in xs: flat things -/
theorem rd_in {K : PySem.W.Frag} {neg : Bool} {a : V} {vs : List V} {zs : List D} (l : SV g y zs) (e : zs = vs.map D.v) (hx : flatV a = true) (hv : vs.all flatV = true) (q : Ψ (.v (.bl (if neg then !inV a vs else inV a vs))) g) : RD (rIn K neg) (.v a) y g Ψ := fun M H c u w ru rw Q k => by
  obtain ⟨p, ws, e1, h1, h2⟩ := l.at K c rw
  subst e
  have e2 := h2.flat
  subst e2
  rw [show u = a from ru]
  exact ⟨p, ws, e1, h1, hx, hv, k _ g _ H q .refl c rfl⟩
theorem flatV_strs : ∀ ss : List Str, (ss.map V.str).all flatV = true
  | [] => rfl
  | s :: ss => by rw [List.map_cons, List.all_cons, flatV_strs ss]; rfl
theorem inV_strs (s : Str) : ∀ ss : List Str, inV (.str s) (ss.map V.str) = decide (s ∈ ss)
  | [] => by simp [inV]
  | t :: ss => by
    have h := inV_strs s ss
    unfold inV at h ⊢
    rw [List.map_cons, List.any_cons, h]
    show ((t == s) || decide (s ∈ ss)) = _
    by_cases e : t = s
    · subst e; simp
    · have e2 : ¬ s = t := fun z => e z.symm
      simp [e, e2]
theorem rd_inS {K : PySem.W.Frag} {neg : Bool} {s : Str} {ss : List Str} {zs : List D} (l : SV g y zs) (e : zs = ss.map fun s => D.v (.str s)) (q : Ψ (.v (.bl (if neg then !decide (s ∈ ss) else decide (s ∈ ss)))) g) : RD (rIn K neg) (.v (.str s)) y g Ψ :=
  rd_in l (vs := ss.map V.str) (by rw [e, List.map_map]; rfl) rfl (flatV_strs ss) (by rw [inV_strs]; exact q)
/-- xs + ys -/
theorem rd_cat {xs ys : List D} (lx : LV g x xs) (ly : LV g y ys) (hl : xs.length + ys.length ≤ 1000000) (q : Ψ (.lst (xs ++ ys)) g) : RD rCat x y g Ψ := fun M H c u w ru rw Q k => by
  obtain ⟨a, vs, e1, h1, r1⟩ := lx.at c ru
  obtain ⟨b, ws, e2, h2, r2⟩ := ly.at c rw
  refine ⟨a, b, vs, ws, e1, e2, h1, h2, by rw [r1.length, r2.length, sizeLine_eq]; omega, fun p hp => k _ g _ _ q (.new hp) (c.grow (ex_new hp)) ⟨p, _, rfl, new_rep c hp, upd_same, ?_⟩⟩
  exact (r1.append r2).mono ((Tr.new (g := g) hp).leq c.dom)
/-- xs[i], t[i] -/
theorem rd_ix {K : PySem.W.Frag} {xs : List D} {i : Int} {d : D} (l : SV g x xs) (e : atI xs i = some d) (q : Ψ d g) : RD (rIx K) x (.v (.int i)) g Ψ := fun M H c u w ru rw Q k => by
  obtain ⟨j, hj, ej⟩ := Option.bind_eq_some_iff.mp (show (ixN xs.length i).bind (fun j => xs[j]?) = some d from e)
  cases l with
  | l _ _ h =>
    obtain ⟨a, vs, e1, h1, r1⟩ := h.at c ru
    obtain ⟨v, ev, rv⟩ := r1.get ej
    exact .inl ⟨a, vs, i, v, e1, rw, .of h1, by show (ixN vs.length i).bind (fun j => vs[j]?) = some v; rw [r1.length, hj]; exact ev, k d g v H q .refl c rv⟩
  | r n w' c' =>
    obtain ⟨a, e1, _, h1⟩ := ru
    obtain ⟨o, ho⟩ := h1.rd
    have r1 : Reps (MM M g) H [.v (.str w'), .v (.str c')] [.str w', .str c'] := ⟨_, _, rfl, rfl, _, _, rfl, rfl, rfl⟩
    obtain ⟨v, ev, rv⟩ := r1.get ej
    exact .inr (.inl ⟨a, [.str w', .str c'], i, v, e1, rw, .inl (.inr ⟨o, ho⟩), by show (ixN 2 i).bind (fun j => ([.str w', .str c'] : List V)[j]?) = some v; rw [show ixN 2 i = some j from hj]; exact ev, k d g v H q .refl c rv⟩)
  | t =>
    obtain ⟨a, vs, e1, n, h1, r1⟩ := ru
    obtain ⟨v, ev, rv⟩ := r1.get ej
    exact .inr (.inl ⟨a, vs, i, v, e1, rw, .of h1, by show (ixN vs.length i).bind (fun j => vs[j]?) = some v; rw [r1.length, hj]; exact ev, k d g v H q .refl c rv⟩)
end
/-! ### statements -/
section
variable {env : DEnv} {g : G} {te ta tb : TE} {tt tu : TT} {ts tz : TS} {E : DE} {gt : TG}
theorem Fits.to {M : Addr → Prop} {g g' : G} {H H' : Hp} {Z : Ends} (f : Fits M g H E Z) (t : Tr g H g' H') : Fits M g' H' E Z :=
  ⟨fun e' g2 σ2 H2 h t2 s => f.nx e' g2 σ2 H2 h (t.trans t2) s, fun d g2 v H2 h t2 c r => f.rt d g2 v H2 h (t.trans t2) c r, fun e' g2 σ2 H2 h t2 s => f.bk e' g2 σ2 H2 h (t.trans t2) s, fun e' g2 σ2 H2 h t2 s => f.ct e' g2 σ2 H2 h (t.trans t2) s⟩
theorem ws_next (h : E.nx env g) : WS tNext env g E := fun M σ H s Z f => f.nx env g σ H h .refl s
theorem ws_brk (h : E.bk env g) : WS tBreak env g E := fun M σ H s Z f => f.bk env g σ H h .refl s
theorem ws_cont (h : E.ct env g) : WS tCont env g E := fun M σ H s Z f => f.ct env g σ H h .refl s
theorem ws_seq (h : WS ts env g ⟨fun e2 g2 => WS tz e2 g2 E, E.rt, E.bk, E.ct⟩) : WS (tSeq ts tz) env g E := fun M σ H s Z f =>
  h M σ H s { Z with nx := tz Z } ⟨fun e2 g2 σ2 H2 h2 t2 s2 => h2 M σ2 H2 s2 Z (f.to t2), f.rt, f.bk, f.ct⟩
theorem ws_asg (h : YE te env g fun d g1 => WG gt d env g1 E.nx) : WS (tAsg te gt) env g E := fun M σ H s Z f =>
  h M σ H s _ fun d g1 v H1 h1 t1 c1 r1 => h1 M σ H1 (s.to t1 c1) v r1 _ fun e2 g2 σ2 H2 q t2 s2 => f.nx e2 g2 σ2 H2 q (t1.trans t2) s2
theorem wg_name {i : Nat} {d : D} {Ψ : DEnv → G → Prop} (h : Ψ (env.set i (some d)) g) : WG (gName i) d env g Ψ := fun M σ H s v r Q k => k _ g _ H h .refl (s.set r)
theorem ws_set {i : Nat} (h : YE te env g fun d g1 => E.nx (env.set i (some d)) g1) : WS (tAsg te (gName i)) env g E := ws_asg (h.mono fun _ _ q => wg_name q)
theorem ws_drop (h : YE te env g fun _ g1 => E.nx env g1) : WS (tDrop te) env g E := fun M σ H s Z f => h M σ H s _ fun d g1 v H1 h1 t1 c1 r1 => f.nx env g1 σ H1 h1 t1 (s.to t1 c1)
theorem ws_ret (h : YE te env g E.rt) : WS (tRet te) env g E := fun M σ H s Z f => h M σ H s _ f.rt
theorem ws_retN (h : E.rt (.v .non) g) : WS tRetN env g E := fun M σ H s Z f => f.rt _ g _ H h .refl s.toCok rfl
theorem ws_if (h : YT tt env g fun b g1 => if b = true then WS ts env g1 E else WS tz env g1 E) : WS (tIfS tt ts tz) env g E := fun M σ H s Z f =>
  h M σ H s _ fun b g1 H1 h1 t1 c1 => by
    cases b with
    | true => exact (show WS ts env g1 E from h1) M σ H1 (s.to t1 c1) Z (f.to t1)
    | false => exact (show WS tz env g1 E from h1) M σ H1 (s.to t1 c1) Z (f.to t1)
theorem WS.mono {E' : DE} (h : WS ts env g E) (nx : ∀ e g, E.nx e g → E'.nx e g) (rt : ∀ d g, E.rt d g → E'.rt d g) (bk : ∀ e g, E.bk e g → E'.bk e g) (ct : ∀ e g, E.ct e g → E'.ct e g) : WS ts env g E' := fun M σ H s Z f =>
  h M σ H s Z ⟨fun e2 g2 σ2 H2 q => f.nx e2 g2 σ2 H2 (nx _ _ q), fun d g2 v H2 q => f.rt d g2 v H2 (rt _ _ q), fun e2 g2 σ2 H2 q => f.bk e2 g2 σ2 H2 (bk _ _ q), fun e2 g2 σ2 H2 q => f.ct e2 g2 σ2 H2 (ct _ _ q)⟩
/-- a tuple unpacked into names -/
def setsD (env : DEnv) : List Nat → List D → DEnv
  | i :: is, d :: ds => setsD (env.set i (some d)) is ds
  | _, _ => env
def gNames : List Nat → TGs
  | [] => gNil
  | i :: is => gCons (gName i) (gNames is)
theorem gNames_run {M : Addr → Prop} : ∀ {is : List Nat} {ds : List D} {vs : List V} {env : DEnv} {g : G} {σ : L2.St} {H : Hp} {Q : L2.St → Hp → Prop}, Sok M env g σ H → Reps (MM M g) H ds vs → ds.length = is.length →
    (∀ σ', Sok M (setsD env is ds) g σ' H → Q σ' H) → gNames is vs σ H Q
  | [], [], vs, env, g, σ, H, Q, s, r, hl, k => ⟨r, k σ s⟩
  | i :: is, d :: ds, vs, env, g, σ, H, Q, s, r, hl, k => by
    obtain ⟨v, us, e, r1, r2⟩ := r
    exact ⟨v, us, e, gNames_run (s.set r1) r2 (by simpa using hl) k⟩
theorem wg_tup {K : PySem.W.Frag} {is : List Nat} {n : Nat} {ds : List D} {Ψ : DEnv → G → Prop} (hn : n = is.length) (hl : ds.length = n) (h : Ψ (setsD env is ds) g) : WG (gTup K n (gNames is)) (.tup ds) env g Ψ := fun M σ H s v r Q k => by
  obtain ⟨a, vs, e, m, h1, r1⟩ := r
  exact ⟨a, vs, e, .of h1, by rw [r1.length, hl], gNames_run s r1 (hl.trans hn) fun σ' s' => k _ g σ' H h .refl s'⟩
end
/-! ### a def's promise, a call -/
abbrev RSpec := List D → G → (D → G → Prop) → Prop
/-- what a def does, as a wish's transformer -/
structure RS where
  r : RSpec
  mono : ∀ ds g (P P' : D → G → Prop), (∀ d g, P d g → P' d g) → r ds g P → r ds g P'
/-- from arguments of the form pre x: the value res x, no cell touched -/
def pureR {α : Type} (pre : α → List D → Prop) (res : α → D) : RS := ⟨fun ds g Q => g = [] ∧ ∃ x, pre x ds ∧ Q (res x) [], fun _ _ _ _ k ⟨e, x, h, q⟩ => ⟨e, x, h, k _ _ q⟩⟩
/-- .. one of the values post x, cells given and taken -/
def ndR {α : Type} (pre : α → List D → G → Prop) (post : α → D → G → Prop) : RS := ⟨fun ds g Q => ∃ x, pre x ds g ∧ ∀ d g', post x d g' → Q d g', fun _ _ _ _ k ⟨x, h, q⟩ => ⟨x, h, fun d g' p => k _ _ (q d g' p)⟩⟩
/-- .. the value res x and the cells post x -/
def detR {α : Type} (pre : α → List D → G → Prop) (res : α → D) (post : α → G) : RS := ⟨fun ds g Q => ∃ x, pre x ds g ∧ Q (res x) (post x), fun _ _ _ _ k ⟨x, h, q⟩ => ⟨x, h, k _ _ q⟩⟩
/-- what a caller learns -/
def Back (M : Addr → Prop) (g : G) (H : Hp) (Q : VK) : D → G → Prop := fun d g' => ∀ v H', Tr g H g' H' → Cok M g' H' → Rep (MM M g') H' d v → Q v H'
def spR (R : RS) : Sp := fun vs H Q _ => ∃ M g ds, Cok M g H ∧ Reps (MM M g) H ds vs ∧ R.r ds g (Back M g H Q)
theorem MM_app {M : Addr → Prop} {g g' : G} {a : Addr} : MM (MM M g') g a ↔ MM M (g ++ g') a := by
  unfold MM ks
  rw [List.map_append, List.mem_append]
  constructor
  · rintro ((h | h) | h)
    · exact .inl h
    · exact .inr (.inr h)
    · exact .inr (.inl h)
  · rintro (h | h | h)
    · exact .inl (.inl h)
    · exact .inr h
    · exact .inl (.inr h)
theorem Rep.iff {M M' : Addr → Prop} {H : Hp} {d : D} {v : V} (e : ∀ a, M a ↔ M' a) (r : Rep M H d v) : Rep M' H d v := r.mono ⟨fun _ _ _ h => h, fun a n _ h => n ((e a).mpr h)⟩
theorem Reps.iff {M M' : Addr → Prop} {H : Hp} {d : List D} {v : List V} (e : ∀ a, M a ↔ M' a) (r : Reps M H d v) : Reps M' H d v := r.mono ⟨fun _ _ _ h => h, fun a n _ h => n ((e a).mpr h)⟩
theorem MRep.iff {M M' : Addr → Prop} {H : Hp} {d : MO} {v : HO} (e : ∀ a, M a ↔ M' a) (r : MRep M H d v) : MRep M' H d v := r.mono ⟨fun _ _ _ h => h, fun a n _ h => n ((e a).mpr h)⟩
/-- the cells gr set aside -/
theorem Cok.aside {M : Addr → Prop} {gc gr : G} {H : Hp} (c : Cok M (gc ++ gr) H) : Cok (MM M gr) gc H := by
  refine ⟨fun a m h => ?_, ?_, fun a z => ?_, fun a h z => ?_⟩
  · obtain ⟨o, h1, h2⟩ := c.cells a m (List.mem_append_left _ h)
    exact ⟨o, h1, h2.iff fun a => MM_app.symm⟩
  · have := c.nd
    unfold ks at this ⊢
    rw [List.map_append] at this
    exact (List.nodup_append.mp this).1
  · rcases z with z | z
    · exact c.dom a z
    · obtain ⟨⟨b, m⟩, hm, e⟩ := List.mem_map.mp z
      obtain ⟨o, h1, _⟩ := c.cells b m (List.mem_append_right _ hm)
      rw [← e, h1]; simp
  · rcases z with z | z
    · exact c.dis a (by unfold ks at h ⊢; rw [List.map_append]; exact List.mem_append_left _ h) z
    · have nd := c.nd
      unfold ks at nd h z
      rw [List.map_append] at nd
      exact (List.nodup_append.mp nd).2.2 a h a z rfl
/-- the cells gr back, untouched -/
theorem Cok.back {M : Addr → Prop} {gc gr g' : G} {H H' : Hp} (c : Cok M (gc ++ gr) H) (t : Tr gc H g' H') (c' : Cok (MM M gr) g' H') : Cok M (g' ++ gr) H' := by
  have nd0 := c.nd
  unfold ks at nd0
  rw [List.map_append] at nd0
  have hne : ∀ a, a ∈ ks gr → H a ≠ none := fun a z => by
    obtain ⟨⟨b, m⟩, hm, e⟩ := List.mem_map.mp z
    obtain ⟨o, h1, _⟩ := c.cells b m (List.mem_append_right _ hm)
    rw [← e, h1]; simp
  have hdis : ∀ a, a ∈ ks g' → a ∉ ks gr := fun a z1 z2 => by
    rcases t.nw a z1 with q | q
    · exact (List.nodup_append.mp nd0).2.2 a q a z2 rfl
    · exact hne a z2 q
  refine ⟨fun a m h => ?_, ?_, fun a z => t.th a (c.dom a z), fun a h z => ?_⟩
  · rcases List.mem_append.mp h with h | h
    · obtain ⟨o, h1, h2⟩ := c'.cells a m h
      exact ⟨o, h1, h2.iff fun a => MM_app⟩
    · obtain ⟨o, h1, h2⟩ := c.cells a m (List.mem_append_right _ h)
      have ha : a ∈ ks gr := List.mem_map.mpr ⟨(a, m), h, rfl⟩
      have hn : a ∉ ks gc := fun z => (List.nodup_append.mp nd0).2.2 a z a ha rfl
      refine ⟨o, t.kp a o h1 hn, ?_⟩
      have h3 : MRep (MM (MM M gr) gc) H m o := h2.iff fun a => MM_app.symm
      exact (h3.mono (t.leq c.aside.dom)).iff fun a => MM_app
  · unfold ks
    rw [List.map_append]
    exact List.nodup_append.mpr ⟨c'.nd, (List.nodup_append.mp nd0).2.1, fun a z1 b z2 e => hdis a z1 (e ▸ z2)⟩
  · unfold ks at h
    rw [List.map_append, List.mem_append] at h
    rcases h with h | h
    · exact c'.dis a h (.inl z)
    · exact c.dis a (by unfold ks; rw [List.map_append]; exact List.mem_append_right _ h) z
theorem Tr.app {gc g' gr : G} {H H' : Hp} (t : Tr gc H g' H') : Tr (gc ++ gr) H (g' ++ gr) H' := by
  refine ⟨fun a o e n => t.kp a o e fun z => n ?_, t.th, fun a z => ?_⟩
  · unfold ks at z ⊢
    rw [List.map_append]
    exact List.mem_append_left _ z
  · unfold ks at z ⊢
    rw [List.map_append] at z ⊢
    rcases List.mem_append.mp z with z | z
    · rcases t.nw a z with q | q
      · exact .inl (List.mem_append_left _ q)
      · exact .inr q
    · exact .inl (List.mem_append_right _ z)
section
variable {env : DEnv} {g : G} {ta : TE} {tr : TA} {Ψ : D → G → Prop}
/-- the core of a call -/
theorem call_core {R : RS} {M : Addr → Prop} {gc gr : G} {H : Hp} {ds : List D} {vs : List V} {Q : VK} (c : Cok M (gc ++ gr) H) (r : Reps (MM M (gc ++ gr)) H ds vs) (h : R.r ds gc fun d g' => Ψ d (g' ++ gr))
    (k : ∀ d g' v H', Ψ d g' → Tr (gc ++ gr) H g' H' → Cok M g' H' → Rep (MM M g') H' d v → Q v H') (X : XK) : spR R vs H Q X :=
  ⟨MM M gr, gc, ds, c.aside, r.iff fun a => MM_app.symm, R.mono _ _ _ _ (fun d g' q v H' t c' r' => k d _ v H' q t.app (c.back t c') (r'.iff fun a => MM_app)) h⟩
theorem ye_call {R : RS} {X : XK} (h : YA tr env g fun ds g1 => ∃ gc gr, g1 = gc ++ gr ∧ R.r ds gc fun d g' => Ψ d (g' ++ gr)) : YE (tCall (spR R) [] X tr) env g Ψ := fun M σ H s Q k =>
  h M σ H s _ fun ds g1 vs H1 ⟨gc, gr, e, h1⟩ t1 c1 r1 => by
    subst e
    rw [List.append_nil]
    exact call_core c1 r1 h1 (fun d g' v H' q t c r => k d g' v H' q (t1.trans t) c r) X
/-- a pure def: no cells of the caller's are its business -/
theorem ye_callP {R : RS} {X : XK} (h : YA tr env g fun ds g1 => R.r ds [] fun d g' => Ψ d (g' ++ g1)) : YE (tCall (spR R) [] X tr) env g Ψ :=
  ye_call fun M σ H s Q k => h M σ H s Q fun ds g1 vs H1 q t c r => k ds g1 vs H1 ⟨[], g1, rfl, q⟩ t c r
end
end Dl
set_option Elab.async false
set_option linter.all false
set_option maxRecDepth 100000
set_option maxHeartbeats 2000000
set_option autoImplicit false
namespace Dl
open PySem PySem.Spec PyProof.Rows L2
/-! ### rules of our own over the layer -/
section
variable {X : Cx}
/-- behind an expression a mutable object may be locked for good -/
def tFrz (t : TE) : TE := fun σ H Q => t σ H fun v H1 => Q v H1 ∨ ∃ d u, H1 d = some u ∧ Mut (some u) ∧ ∀ od, Q v (upd H1 d (.frz od u))
theorem pe_frz {e : Expr} {t : TE} (h : PE X e t) : PE X e (tFrz t) := by
  refine ⟨fun pins s σ H Q I hw => ?_⟩
  refine thn (h.run pins s σ H _ I hw) fun v s1 ⟨x, H1, I1, r, q⟩ => ?_
  rcases q with q | ⟨d, u, hd, mu, q⟩
  · exact ⟨x, H1, I1, r, q⟩
  · obtain ⟨od, I2⟩ := I1.lock hd mu
    exact ⟨x, _, I2, r, q od⟩
/-- y in d -/
def rDIn (neg : Bool) : R2 := fun y x H Q => ∃ a o, x = .ref a ∧ DGet H a y o ∧ Q (.bl (if neg then !o.isSome else o.isSome)) H
theorem op_din (hu : X.A.units + 1 < cLine) : OpR X (compareOp .In) (rDIn false) := by
  intro pins s σ H x y v u Q I rx ry h
  obtain ⟨a, o, e, g, q⟩ := h
  subst e
  obtain rfl : u = Value.ref a := ry
  exact d_in hu I g rx fun s3 I3 => ⟨.bl o.isSome, H, I3, rfl, q⟩
theorem op_dnotin (hu : X.A.units + 1 < cLine) : OpR X (compareOp .NotIn) (rDIn true) := by
  intro pins s σ H x y v u Q I rx ry h
  obtain ⟨a, o, e, g, q⟩ := h
  subst e
  obtain rfl : u = Value.ref a := ry
  exact d_notIn hu I g rx fun s3 I3 => ⟨.bl (!o.isSome), H, I3, rfl, q⟩
/-- one sign in a text -/
def rInS (neg : Bool) : R2 := fun x y H Q => ∃ (c : Nat) (z : Str), x = .str ⟨#[c]⟩ ∧ y = .str z ∧ Q (.bl (if neg then !decide (c ∈ z.cps.toList) else decide (c ∈ z.cps.toList))) H
theorem op_inS : OpR X (compareOp .In) (rInS false) := op_in_sign
theorem op_ninS : OpR X (compareOp .NotIn) (rInS true) := op_notIn_sign
def rInA (K : PySem.W.Frag) (neg : Bool) : R2 := rOr (rIn K neg) (rOr (rDIn neg) (rInS neg))
theorem op_inA (hu : X.A.units + 1 < cLine) : OpR X (compareOp .In) (rInA X.K false) := op_in_seq.or ((op_din hu).or op_inS)
theorem op_ninA (hu : X.A.units + 1 < cLine) : OpR X (compareOp .NotIn) (rInA X.K true) := op_notIn_seq.or ((op_dnotin hu).or op_ninS)
def rAddA : R2 := rOr (rI0 fun i j => .int (i + j)) (rOr rCatS rCat)
theorem op_addA : OpR X (binaryOp .Add) rAddA := op_add.or (op_add_str.or op_cat)
def rEqA (K : PySem.W.Frag) : R2 := rOr rEq (rEqD K)
def rNeA (K : PySem.W.Frag) : R2 := rOr rNe (rNeD K)
theorem op_eqA (hu : X.A.units + 64 < cLine) : OpR X (compareOp .Eq) (rEqA X.K) := op_eq.or (op_eqD (by omega))
theorem op_neA (hu : X.A.units + 64 < cLine) : OpR X (compareOp .NotEq) (rNeA X.K) := op_ne.or (op_neD (by omega))
/-- d[k] by values -/
def rDG : R2 := fun x y H Q => ∃ a v, x = .ref a ∧ DGet H a y (some v) ∧ Q v H
theorem ix_dict (hu : X.A.units + 1 < cLine) : IxR X rDG := by
  intro value slice pins s σ H x y v u Q I rx ry h hs
  obtain ⟨a, z, e, g, q⟩ := h
  subst e
  obtain rfl : v = Value.ref a := rx
  have hT := dict_typeIs I g
  unfold subscriptTail
  refine wpAny_bind ?_
  rw [getitemInPython_of_ne hT.not_modules]
  refine wpAny_bind (wpAny_specialOf hT PySem.F.slot_dict_getitem.lookup ?_)
  have fin : wpAny (model X.prog X.w) X.A (subscripted slice false (.ref a) u) (fun r s₃ => wpAny (model X.prog X.w) X.A (letTemporaryGo value (.ref a) r >>= fun _ => pure r) (EP X pins σ Q) X.xe s₃) X.xe s := by
    rw [hs]
    exact wpAny_operating (d_getItem hu I g ry fun w' s3 I3 rw' => wpAny_bind (wpAny_letTemporaryGo (wpAny_pure ⟨z, H, I3, rw', q⟩)))
  first
    | exact wpAny_pure (wpAny_bind fin)
    | exact wpAny_bind (wpAny_pure (wpAny_bind fin))
    | exact wpAny_bind fin
def rIxA (K : PySem.W.Frag) : R2 := rOr (rIx K) rDG
theorem ix_any (hu : X.A.units + 1 < cLine) : IxR X (rIxA X.K) := ix_seq.or (ix_dict hu)
/-- x in o, x not in o: an own __contains__ -/
def rOwnIn (C : Addr) (sp : Sp) (neg : Bool) : R2 := fun x y H Q => ∃ a dx fs, y = .ref a ∧ H a = some (.ins C dx fs) ∧ sp [.ref a, x] H (fun v H' => ∃ b, v = .bl b ∧ Q (.bl (if neg then !b else b)) H') (fun _ _ _ => False)
theorem op_inO {CX : CXT} {C f : Addr} {fd : FuncData} {ps : List Str} {sp : Sp} {k : Nat} (hm : Meth X.K C "__contains__" f) (F : FnOk X.prog X.w X.K X.mg X.base CX k f fd ps sp) (hr : Room k X.A) (hb : Binds X.K fd ps []) (hx : Passes CX X (fun _ _ _ => False)) :
    OpR X (compareOp .In) (rOwnIn C sp false) := by
  intro pins s σ H x y v u Q I rx ry h
  obtain ⟨a, dx, fs, e, ha, q⟩ := h
  subst e
  obtain rfl : u = Value.ref a := ry
  obtain ⟨m, F0⟩ := I.fr
  obtain ⟨mA, O, r, _, _, _⟩ := ins_get I.hok ha
  obtain ⟨od, J, _⟩ := O.look
  refine PySem.W.in_K F0 I.mod.kin J hm.at_ hm.fn ?_
  refine thn (run_fn (us := [.ref a, v]) (vs := [.ref a, x]) F hr hb .nil hx I (.cons rfl (.cons rx .nil)) q) fun w s2 ⟨z, H2, I2, r2, b, e2, q2⟩ => ?_
  subst e2
  cases r2
  exact wpAny_truthy_bool ⟨.bl b, H2, I2, rfl, q2⟩
theorem op_ninO {CX : CXT} {C f : Addr} {fd : FuncData} {ps : List Str} {sp : Sp} {k : Nat} (hm : Meth X.K C "__contains__" f) (F : FnOk X.prog X.w X.K X.mg X.base CX k f fd ps sp) (hr : Room k X.A) (hb : Binds X.K fd ps []) (hx : Passes CX X (fun _ _ _ => False)) :
    OpR X (compareOp .NotIn) (rOwnIn C sp true) := by
  intro pins s σ H x y v u Q I rx ry h
  obtain ⟨a, dx, fs, e, ha, q⟩ := h
  subst e
  obtain rfl : u = Value.ref a := ry
  obtain ⟨m, F0⟩ := I.fr
  obtain ⟨mA, O, r, _, _, _⟩ := ins_get I.hok ha
  obtain ⟨od, J, _⟩ := O.look
  refine PySem.W.notIn_K F0 I.mod.kin J hm.at_ hm.fn ?_
  refine thn (run_fn (us := [.ref a, v]) (vs := [.ref a, x]) F hr hb .nil hx I (.cons rfl (.cons rx .nil)) q) fun w s2 ⟨z, H2, I2, r2, b, e2, q2⟩ => ?_
  subst e2
  cases r2
  exact wpAny_truthy_bool ⟨.bl (!b), H2, I2, rfl, q2⟩
/-- list(d.items()) of a locked dict -/
def rItemsF : V → Hp → VK → Prop := fun x H Q => ∃ (d : Addr) (o : Obj) (kvs : List (Key × V)), x = .ref d ∧ H d = some (.frz o (.dK kvs)) ∧
  ∀ (H' : Hp) (p : Addr) (ts : List Addr), (∀ b o, H b = some o → H' b = some o) → H p = none → (∀ t ∈ ts, H t = none) → p ∉ ts → H' p = some (.lst (ts.map V.ref)) → Paired (fun (t : Addr) (q : Key × V) => H' t = some (.tup [kV q.1, q.2])) ts kvs → Q (.ref p) H'
def tListItemsF (te : TE) : TE := fun σ H Q => te σ H fun x H1 => rItemsF x H1 Q
theorem pe_listItemsF {e : Expr} {te : TE} {p apos cpos pos : Pos} (hc : X.calm = true) (he : PE X e te) (hg : Gl X "list") (hm : X.mg "list" = none) (hv : bootBuiltins "list" = some (.type "list")) (hbase : attributeBase e "items" X.env (eval e X.env) = eval e X.env := by rfl) (hline : (apos.endLine == cpos.line) = true := by rfl)
    (hs : starEach [.Call (.Attribute e "items" apos) [] [] cpos] X.env = (false, eval (.Call (.Attribute e "items" apos) [] [] cpos) X.env) :: starEach [] X.env := by rfl) :
    PE X (.Call (.Name "list" p) [.Call (.Attribute e "items" apos) [] [] cpos] [] pos) (tListItemsF te) := by
  refine ⟨fun pins s σ H Q I hq => ?_⟩
  refine wpAny_Call_Name_kw (ld_blt I hg hm hv ?_)
  refine PyProof.Rows.callWith_type1 ?_ hs rfl
  rw [hs]
  show wpAny _ _ (spliced ((false, eval (.Call (.Attribute e "items" apos) [] [] cpos) X.env) :: backTo pos (starEach [] X.env))) _ _ s
  refine Calls.spliced_cons ?_
  refine wpAny_Call_method (T := "dict") (id := "dict.items") hbase rfl hline F.plainAttrs_dict F.slot_dict_items F.type_dict_items (thn (he.run pins s σ H _ I hq) fun u s1 ⟨x, H1, I1, rx, d, o, kvs, ex, hd, q⟩ => ?_)
  subst ex
  obtain rfl : u = Value.ref d := rx
  obtain ⟨_, hz, hs0, vs, kv, hdo⟩ := I1.hok d _ hd
  obtain ⟨ep, hat⟩ := hdo.dictAt
  have lk : kvs.length = vs.length := Paired.length kv
  have I2 : Inv X pins σ H1 { s1 with heap := s1.heap.push { cls := .type "dict_items", data := .fields #[.ref d] } } := I1.kept (t' := s1.toks) fun b ob q => Heap.get?_push_of_some _ q
  refine ⟨hdo.typeIs, hdo.mapOf.noDict, ?_⟩
  show wpAny _ _ (callWith cpos (.builtin "dict.items") [.ref d] [] []) _ X.xe s1
  refine method_meetsIn F.slot_dict_items F.entry_dict_items rfl (PySem.evalArgs_none ⟨rfl, hdo.typeIs, F.args_dict_items_1 _, _, meets_dict_items (mixKind X.prog X.w) d hs0, ⟨vs, hdo⟩, ?_⟩)
  refine Calls.spliced_nil ?_
  refine PySem.W.kdx_call (knd := mixKind X.prog X.w) (kvs := vs) (ep := ep) (I1.ok.hd hc) ⟨_, Heap.get?_push_size _ rfl, rfl, rfl⟩ (hat.push _) (by omega) fun h' tk acc c as hk hS hl hG hacc => ?_
  obtain ⟨H', k1, k2, k3, k4, k5, k6, J⟩ := LiI.items_laid (tk := tk) I2 hz kv hk hS hl hG hacc
  exact ⟨.ref _, H', J, rfl, q H' _ as k1 k2 k3 k4 k5 k6⟩
end
end Dl
set_option Elab.async false
set_option linter.all false
set_option maxRecDepth 100000
set_option maxHeartbeats 2000000
set_option autoImplicit false
namespace Dl
open PySem PySem.Spec PyProof.Rows L2
/-! ### what is walked -/
section
variable {X : Cx} {tg : Expr}
def iAny (K : PySem.W.Frag) (tl : TE) : TI := fun σ H R => tl σ H fun x H1 => (∃ a xs, x = .ref a ∧ SqL K H1 a xs ∧ R (Itl K a) H1) ∨ (∃ a xs, x = .ref a ∧ SqT K H1 a xs ∧ R (Itt K a) H1) ∨
  (∃ d o kvs, x = .ref d ∧ H1 d = some (.frz o (.dK kvs)) ∧ R (Itk d o kvs) H1) ∨ (∃ d o kvs, x = .ref d ∧ H1 d = some (.frz o (.dT kvs)) ∧ R (Itkt d o kvs) H1) ∨ ∃ z, x = .str z ∧ R (Its z) H1
theorem pi_any {l : Expr} {tl : TE} (hl : PE X l tl) : PI X tg l (iAny X.K tl) := by
  refine ⟨fun pins s σ H R I h => ?_⟩
  refine thn (hl.run pins s σ H _ I h) fun v s1 ⟨x, H1, I1, r1, q1⟩ => ?_
  rcases q1 with ⟨a, xs, e, hq, q⟩ | ⟨a, xs, e, hq, q⟩ | ⟨d, o, kvs, e, hd, q⟩ | ⟨d, o, kvs, e, hd, q⟩ | ⟨z, e, q⟩
  · subst e
    cases r1
    obtain ⟨its, rv, p, hz⟩ := I1.list hq
    exact wpAny_pyIter_list p.isList (pi_one (tk := s1.toks) I1 _ (turn_list a _) ⟨_, Heap.get?_push_size _ rfl, rfl, rfl⟩ q)
  · subst e
    cases r1
    obtain ⟨its, rv, p, hz⟩ := I1.tuple hq
    exact wpAny_pyIter_tuple (show s1.heap.IsTuple a its.toArray from p) (pi_one (tk := s1.toks) I1 _ (turn_tuple a _) ⟨_, Heap.get?_push_size _ rfl, rfl, rfl⟩ q)
  · subst e
    obtain rfl : v = Value.ref d := r1
    obtain ⟨hs, hgd, hx, es, ep, vs, hdt, hsz, kv, hm⟩ := I1.frzK hd
    refine iter_keys hs hgd hx hdt (pi_one (tk := s1.toks) I1 _ (turn_keys _ hdt) ⟨_, Heap.get?_push_size _ rfl, rfl, ?_⟩ q)
    rw [hsz] <;> rfl
  · subst e
    obtain rfl : v = Value.ref d := r1
    obtain ⟨hs, hgd, hx, es, ep, hdt, hsz, ent⟩ := I1.frzT hd
    refine iter_keys hs hgd hx hdt (pi_one (tk := s1.toks) I1 _ (turn_keysT _ hdt) ⟨_, Heap.get?_push_size _ rfl, rfl, ?_⟩ q)
    rw [hsz] <;> rfl
  · subst e
    obtain ⟨t, rfl⟩ := r1
    cases ha : z.cps.all (· < 128)
    · exact wpAny_pyIter_wide ha (pi_one (tk := s1.toks) I1 _ (turn_str _ z t "str_iterator" (.inr rfl)) ⟨_, Heap.get?_push_size _ rfl, rfl, rfl⟩ q)
    · exact wpAny_pyIter_ascii ha (pi_one (tk := s1.toks) I1 _ (turn_str _ z t "str_ascii_iterator" (.inl rfl)) ⟨_, Heap.get?_push_size _ rfl, rfl, rfl⟩ q)
end
/-- J walks over the data xs as long as the cells kc hold what they held -/
def GoesD (M : Addr → Prop) (g0 : G) (H0 : Hp) (J : It) (xs : List D) (kc : G) : Prop := ∃ (Gp : Hp → Prop) (Y : Nat → Hp → V → Hp → Prop), Walk J xs.length Gp Y ∧
  (∀ M' g H, Leq (MM M g0) (MM M' g) H0 H → Cok M' g H → (∀ c ∈ kc, c ∈ g) → Gp H) ∧
  ∀ (i : Nat) M' H x H' g d, Leq (MM M g0) (MM M' g) H0 H → Cok M' g H → (∀ c ∈ kc, c ∈ g) → xs[i]? = some d → Y i H x H' → (∀ a o, H a = some o → H' a = some o) ∧ Rep (MM M' g) H' d x
def YI (wi : TI) (env : DEnv) (g : G) (Ψ : List D → G → G → Prop) : Prop := ∀ M σ H, Sok M env g σ H → ∀ R : It → Hp → Prop,
  (∀ xs kc g' J H', Ψ xs kc g' → Tr g H g' H' → Cok M g' H' → GoesD M g' H' J xs kc → R J H') → wi σ H R
theorem Leq.trans {M M' M'' : Addr → Prop} {H H' H'' : Hp} (x : Leq M M' H H') (y : Leq M' M'' H' H'') : Leq M M'' H H'' :=
  ⟨fun a o n e => y.st a o (x.ne n e) (x.st a o n e), fun a n e => by
    cases q : H a with
    | none => exact absurd q e
    | some o => exact y.m a (x.ne n q) (by rw [x.st a o n q]; simp)⟩
theorem Leq.rep {M M' : Addr → Prop} {H H' : Hp} {d : D} {v : V} (x : Leq M M' H H') (r : Rep M H d v) : Rep M' H' d v := r.mono x
section
variable {K : PySem.W.Frag} {env : DEnv} {g : G} {te ta tb : TE} {Ψ : List D → G → G → Prop}
theorem walk_listD {a : Addr} {n : Nat} : Walk (Itl K a) n (fun H => ∃ vs, H a = some (.lst vs) ∧ vs.length = n) (fun i H x H' => H' = H ∧ ∀ vs, H a = some (.lst vs) → vs[i]? = some x) :=
  ⟨fun i H hi ⟨vs, e, hl⟩ => ⟨vs, vs[i]'(by omega), .of e, by simp [show i < vs.length by omega]⟩, fun H ⟨vs, e, hl⟩ => ⟨vs, .of e, by omega⟩, fun i H x H' _ _ y => ⟨y.1, fun vs e => y.2 vs (.of e)⟩⟩
theorem goes_list {M : Addr → Prop} {g : G} {H : Hp} {a : Addr} {vs : List V} {xs : List D} (n : ¬ MM M g a) (h : H a = some (.lst vs)) (r : Reps (MM M g) H xs vs) : GoesD M g H (Itl K a) xs [] :=
  ⟨_, _, walk_listD, fun M' g' H' l c _ => ⟨vs, l.st a _ n h, r.length⟩, fun i M' H' x H2 g' d l c _ e y => by
    obtain ⟨rfl, y2⟩ := y
    refine ⟨fun _ _ e => e, ?_⟩
    obtain ⟨v, h1, h2⟩ := r.get e
    have := y2 vs (l.st a _ n h)
    rw [h1] at this; cases this
    exact h2.mono l⟩
theorem goes_cell {M : Addr → Prop} {g : G} {H : Hp} {a : Addr} {xs : List D} : GoesD M g H (Itl K a) xs [(a, .lst xs)] :=
  ⟨_, _, walk_listD, fun M' g' H' l c k => by
    obtain ⟨o, h1, vs, e, r⟩ := c.cells a _ (k (a, .lst xs) (by simp))
    subst e
    exact ⟨vs, h1, r.length⟩, fun i M' H' x H2 g' d l c k e y => by
    obtain ⟨rfl, y2⟩ := y
    refine ⟨fun _ _ e => e, ?_⟩
    obtain ⟨o, h1, vs, e1, r⟩ := c.cells a _ (k (a, .lst xs) (by simp))
    subst e1
    obtain ⟨v, h2, h3⟩ := r.get e
    have := y2 vs h1
    rw [h2] at this; cases this
    exact h3⟩
theorem goes_tup {M : Addr → Prop} {g : G} {H : Hp} {a : Addr} {vs : List V} {xs : List D} (n : ¬ MM M g a) (h : H a = some (.tup vs)) (r : Reps (MM M g) H xs vs) : GoesD M g H (Itt K a) xs [] :=
  ⟨_, _, by have w := walk_tup (K := K) (a := a) (xs := vs); rw [r.length] at w; exact w, fun M' g' H' l c _ => SqT.of (l.st a _ n h), fun i M' H' x H2 g' d l c _ e y => by
    obtain ⟨rfl, y2⟩ := y
    refine ⟨fun _ _ e => e, ?_⟩
    obtain ⟨v, h1, h2⟩ := r.get e
    rw [h1] at y2; cases y2
    exact h2.mono l⟩
theorem zip_get {κ : Type} : ∀ {ks : List κ} {vs : List V} {i : Nat} {k : κ} {v : V}, (ks.zip vs)[i]? = some (k, v) → ks[i]? = some k ∧ vs[i]? = some v
  | [], _, i, _, _, e => by simp at e
  | _ :: _, [], i, _, _, e => by simp at e
  | a :: ks, b :: vs, 0, k, v, e => by simp at e; simp [e]
  | a :: ks, b :: vs, i + 1, k, v, e => by
    have := zip_get (ks := ks) (vs := vs) (i := i) (k := k) (v := v) (by simpa using e)
    simpa using this
theorem zip_len {κ : Type} {ks : List κ} {vs : List V} (h : ks.length = vs.length) : (ks.zip vs).length = ks.length := by rw [List.length_zip]; omega
theorem goes_keys {M : Addr → Prop} {g : G} {H : Hp} {a : Addr} {o : Obj} {vs : List V} {ks : List Key} (n : ¬ MM M g a) (h : H a = some (.frz o (.dK (ks.zip vs)))) (hl : ks.length = vs.length) : GoesD M g H (Itk a o (ks.zip vs)) (ks.map fun k => D.v (kV k)) [] :=
  ⟨_, _, by have w := walk_keys (d := a) (o := o) (kvs := ks.zip vs); rw [zip_len hl] at w; rw [List.length_map]; exact w, fun M' g' H' l c _ => l.st a _ n h, fun i M' H' x H2 g' d l c _ e y => by
    obtain ⟨rfl, k, v, h1, h2⟩ := y
    refine ⟨fun _ _ e => e, ?_⟩
    rw [List.getElem?_map, (zip_get h1).1] at e
    cases e
    rw [h2]; rfl⟩
theorem goes_values {M : Addr → Prop} {g : G} {H : Hp} {a : Addr} {o : Obj} {vs : List V} {ks : List Key} {xs : List D} (n : ¬ MM M g a) (h : H a = some (.frz o (.dK (ks.zip vs)))) (hl : ks.length = xs.length) (r : Reps (MM M g) H xs vs) : GoesD M g H (Itd a o (ks.zip vs)) xs [] :=
  ⟨_, _, by have w := walk_values (d := a) (o := o) (kvs := ks.zip vs); rw [zip_len (by rw [r.length]; exact hl), hl] at w; exact w, fun M' g' H' l c _ => l.st a _ n h, fun i M' H' x H2 g' d l c _ e y => by
    obtain ⟨rfl, k, h1⟩ := y
    refine ⟨fun _ _ e => e, ?_⟩
    obtain ⟨v, h3, h4⟩ := r.get e
    rw [(zip_get h1).2] at h3; cases h3
    exact h4.mono l⟩
/-- a plain thing walked: immutable -/
inductive ItV (g : G) : D → List D → G → Prop
  | lst (xs : List D) : ItV g (.lst xs) xs []
  | cell (a : Addr) (xs : List D) (h : (a, MO.lst xs) ∈ g) : ItV g (.v (.ref a)) xs [(a, MO.lst xs)]
  | tup (xs : List D) : ItV g (.tup xs) xs []
  | keys (ks : List Key) (xs : List D) : ItV g (.dic ks xs) (ks.map fun k => D.v (kV k)) []
  | str (z : Str) : ItV g (.v (.str z)) (z.cps.toList.map fun c => D.v (.str ⟨#[c]⟩)) []
theorem goes_str {M : Addr → Prop} {g : G} {H : Hp} {z : Str} : GoesD M g H (Its z) (z.cps.toList.map fun c => D.v (.str ⟨#[c]⟩)) [] :=
  ⟨_, _, by have w := walk_str (z := z); rw [List.length_map, Array.length_toList]; exact w, fun _ _ _ _ _ _ => trivial, fun i M' H' x H2 g' d l c _ e y => by
    obtain ⟨rfl, c, h1, h2⟩ := y
    refine ⟨fun _ _ e => e, ?_⟩
    rw [List.getElem?_map] at e
    rw [show z.cps.toList[i]? = z.cps[i]? from by simp, h1] at e
    cases e
    rw [h2]; rfl⟩
theorem yi_any (h : YE te env g fun d g1 => ∃ xs kc, ItV g1 d xs kc ∧ Ψ xs kc g1) : YI (iAny K te) env g Ψ := fun M σ H s R k =>
  h M σ H s _ fun d g1 v H1 ⟨xs, kc, iv, q⟩ t1 c1 r1 => by
    cases iv with
    | lst => obtain ⟨a, vs, e, n, h1, r⟩ := r1; exact .inl ⟨a, vs, e, .of h1, k _ _ g1 _ H1 q t1 c1 (goes_list n h1 r)⟩
    | cell a _ hm =>
      obtain ⟨o, h1, vs, e, r⟩ := c1.cells a _ hm
      subst e
      exact .inl ⟨a, vs, r1, .of h1, k _ _ g1 _ H1 q t1 c1 goes_cell⟩
    | tup => obtain ⟨a, vs, e, n, h1, r⟩ := r1; exact .inr (.inl ⟨a, vs, e, .of h1, k _ _ g1 _ H1 q t1 c1 (goes_tup n h1 r)⟩)
    | keys ks xs => obtain ⟨a, o, vs, e, n, h1, hl, r⟩ := r1; exact .inr (.inr (.inl ⟨a, o, _, e, h1, k _ _ g1 _ H1 q t1 c1 (goes_keys n h1 (by rw [r.length]; exact hl))⟩))
    | str z => exact .inr (.inr (.inr (.inr ⟨z, r1, k _ _ g1 _ H1 q t1 c1 goes_str⟩)))
theorem yi_values (h : YE te env g fun d g1 => ∃ ks xs, d = .dic ks xs ∧ Ψ xs [] g1) : YI (iVals te) env g Ψ := fun M σ H s R k =>
  h M σ H s _ fun d g1 v H1 ⟨ks, xs, e, q⟩ t1 c1 r1 => by
    subst e
    obtain ⟨a, o, vs, e, n, h1, hl, r⟩ := r1
    exact ⟨a, o, _, e, h1, k _ _ g1 _ H1 q t1 c1 (goes_values n h1 hl r)⟩
end
/-! ### loops -/
section
variable {env : DEnv} {g : G} {E : DE} {wi : TI} {gt : TG} {tb : TS}
theorem ws_for (h : YI wi env g fun xs kc g1 => ∃ Iv : Nat → DEnv → G → Prop, Iv 0 env g1 ∧ (∀ i e gg, Iv i e gg → ∀ c ∈ kc, c ∈ gg) ∧
    (∀ (i : Nat) d e gg, xs[i]? = some d → Iv i e gg → WG gt d e gg fun e2 g2 => WS tb e2 g2 ⟨Iv (i + 1), E.rt, E.nx, Iv (i + 1)⟩) ∧ ∀ e gg, Iv xs.length e gg → E.nx e gg) : WS (tFor wi gt tb) env g E := fun M σ H s Z f =>
  h M σ H s _ fun xs kc g1 J H1 ⟨Iv, i0, ik, it, ie⟩ t1 c1 go => by
    obtain ⟨Gp, Y, w, gp, gy⟩ := go
    refine for_it w (fun i σ' H' => ∃ e gg, Iv i e gg ∧ Sok M e gg σ' H' ∧ Tr g1 H1 gg H') ⟨env, g1, i0, s.to t1 c1, .refl⟩ (fun i σ' H' _ ⟨e, gg, h1, h2, h3⟩ => gp M gg H' (h3.leq c1.dom) h2.toCok (ik i e gg h1)) ?_ ?_
    · rintro i x σ' H' H2 hi ⟨e, gg, h1, h2, h3⟩ y
      have ex : xs[i]? = some (xs[i]'hi) := by simp [hi]
      obtain ⟨y1, y2⟩ := gy i M H' x H2 gg _ (h3.leq c1.dom) h2.toCok (ik i e gg h1) ex y
      have t2 : Tr g1 H1 gg H2 := h3.trans (.ex y1)
      refine it i _ e gg ex h1 M σ' H2 (h2.grow y1) x y2 _ fun e2 g2 σ2 H3 h4 t4 s4 => ?_
      refine h4 M σ2 H3 s4 _ ⟨fun e5 g5 σ5 H5 q t5 s5 => ⟨e5, g5, q, s5, t2.trans (t4.trans t5)⟩, fun d g5 v H5 q t5 c5 r5 => f.rt d g5 v H5 q (t1.trans (t2.trans (t4.trans t5))) c5 r5,
        fun e5 g5 σ5 H5 q t5 s5 => f.nx e5 g5 σ5 H5 q (t1.trans (t2.trans (t4.trans t5))) s5, fun e5 g5 σ5 H5 q t5 s5 => ⟨e5, g5, q, s5, t2.trans (t4.trans t5)⟩⟩
    · rintro σ' H' ⟨e, gg, h1, h2, h3⟩
      exact f.nx e gg σ' H' (ie e gg h1) (t1.trans h3) h2
theorem ws_while {tc : TT} (Iv : Nat → DEnv → G → Prop) (m : Nat) (i0 : Iv m env g) (it : ∀ m e gg, Iv m e gg → YT tc e gg fun b g1 => if b = true then WS tb e g1 ⟨fun e2 g2 => ∃ m', m' < m ∧ Iv m' e2 g2, E.rt, E.nx, fun e2 g2 => ∃ m', m' < m ∧ Iv m' e2 g2⟩ else E.nx e g1) :
    WS (tWhile tc tb) env g E := fun M σ H s Z f => by
  refine ⟨fun m σ' H' => ∃ e gg, Iv m e gg ∧ Sok M e gg σ' H' ∧ Tr g H gg H', ⟨m, env, g, i0, s, .refl⟩, ?_⟩
  rintro m σ' H' ⟨e, gg, h1, h2, h3⟩
  refine it m e gg h1 M σ' H' h2 _ fun b g1 H1 q t1 c1 => ?_
  cases b with
  | true =>
    refine ⟨fun σ2 H2 => ∃ m', m' < m ∧ ∃ e gg, Iv m' e gg ∧ Sok M e gg σ2 H2 ∧ Tr g H gg H2, fun σ2 H2 z => z, ?_⟩
    refine (show WS tb e g1 _ from q) M σ' H1 (h2.to t1 c1) _ ⟨?_, fun d g5 v H5 q t5 c5 r5 => f.rt d g5 v H5 q (h3.trans (t1.trans t5)) c5 r5, fun e5 g5 σ5 H5 q t5 s5 => f.nx e5 g5 σ5 H5 q (h3.trans (t1.trans t5)) s5, ?_⟩
    · rintro e5 g5 σ5 H5 ⟨m', lt, q⟩ t5 s5
      exact ⟨m', lt, e5, g5, q, s5, h3.trans (t1.trans t5)⟩
    · rintro e5 g5 σ5 H5 ⟨m', lt, q⟩ t5 s5
      exact ⟨m', lt, e5, g5, q, s5, h3.trans (t1.trans t5)⟩
  | false => exact f.nx e g1 σ' H1 q (h3.trans t1) (h2.to t1 c1)
end
/-! ### list comprehensions -/
theorem wipe_get (σ : L2.St) : ∀ (vs : List Nat) (i : Nat), (wipe σ vs)[i]? = if i ∈ vs then (σ[i]?).map (fun _ => none) else σ[i]?
  | [], i => by simp [wipe]
  | j :: vs, i => by
    have h := wipe_get σ vs i
    unfold L2.wipe
    by_cases e : i = j
    · subst e
      rw [if_pos (by simp), List.getElem?_set_self']
      rw [h]
      by_cases hv : i ∈ vs
      · rw [if_pos hv]; cases σ[i]? <;> rfl
      · rw [if_neg hv]; cases σ[i]? <;> rfl
    · rw [List.getElem?_set_ne (Ne.symm e), h]
      by_cases hv : i ∈ vs
      · rw [if_pos hv, if_pos (by simp [hv])]
      · rw [if_neg hv, if_neg (by simp [hv, e])]
def wipeD (env : DEnv) (vs : List Nat) : DEnv := env.mapIdx fun i d => if i ∈ vs then none else d
theorem wipeD_get {env : DEnv} {vs : List Nat} {i : Nat} {d : D} (h : (wipeD env vs)[i]? = some (some d)) : i ∉ vs ∧ env[i]? = some (some d) := by
  unfold wipeD at h
  rw [List.getElem?_mapIdx] at h
  cases e : env[i]? with
  | none => rw [e] at h; simp at h
  | some o =>
    rw [e] at h
    simp only [Option.map_some, Option.some.injEq] at h
    by_cases hi : i ∈ vs
    · rw [if_pos hi] at h; cases h
    · rw [if_neg hi] at h; exact ⟨hi, by rw [h]⟩
theorem Sok.wipe {M : Addr → Prop} {env : DEnv} {g : G} {σ : L2.St} {H : Hp} (s : Sok M env g σ H) (vs : List Nat) : Sok M (wipeD env vs) g (L2.wipe σ vs) H := by
  refine { s.toCok with len := ?_, slots := fun i d e => ?_ }
  · rw [wipe_length, s.len]; simp [wipeD]
  · obtain ⟨hi, e1⟩ := wipeD_get e
    obtain ⟨v, h1, h2⟩ := s.slots i d e1
    exact ⟨v, by rw [wipe_get, if_neg hi]; exact h1, h2⟩
/-- a target within a comprehension: the walked names are the block's own -/
def WGc (vs : List Nat) (gt : TG) (d : D) (env : DEnv) (g : G) (Ψ : DEnv → G → Prop) : Prop := ∀ M σ H, Sok M env g σ H → ∀ v, Rep (MM M g) H d v → ∀ Q : L2.St → Hp → Prop,
  (∀ env' g' σ' H', Ψ env' g' → L2.wipe σ' vs = L2.wipe σ vs → Tr g H g' H' → Sok M env' g' σ' H' → Q σ' H') → gt v σ H Q
theorem wipe_set {σ : L2.St} {vs : List Nat} {i : Nat} {x : Option V} (h : i ∈ vs) : wipe (σ.set i x) vs = wipe σ vs := by
  apply List.ext_getElem?
  intro j
  rw [wipe_get, wipe_get]
  by_cases hj : j ∈ vs
  · rw [if_pos hj, if_pos hj]
    rw [List.getElem?_set]
    by_cases e : i = j
    · subst e
      by_cases hl : i < σ.length
      · simp [hl]
      · simp [hl]
    · simp [e]
  · rw [if_neg hj, if_neg hj, List.getElem?_set_ne (by rintro rfl; exact hj h)]
theorem wipe_wipe (σ : L2.St) (vs : List Nat) : wipe (wipe σ vs) vs = wipe σ vs := by
  apply List.ext_getElem?
  intro j
  rw [wipe_get, wipe_get]
  by_cases hj : j ∈ vs
  · rw [if_pos hj, if_pos hj]; cases σ[j]? <;> rfl
  · rw [if_neg hj, if_neg hj]
theorem wgc_name {vs : List Nat} {env : DEnv} {g : G} {i : Nat} {d : D} {Ψ : DEnv → G → Prop} (hi : i ∈ vs) (h : Ψ (env.set i (some d)) g) : WGc vs (gName i) d env g Ψ := fun M σ H s v r Q k => k _ g _ H h (wipe_set hi) .refl (s.set r)
theorem gNames_runC {vs0 : List Nat} {M : Addr → Prop} : ∀ {is : List Nat} {ds : List D} {vs : List V} {env : DEnv} {g : G} {σ : L2.St} {H : Hp} {Q : L2.St → Hp → Prop}, (∀ i ∈ is, i ∈ vs0) → Sok M env g σ H → Reps (MM M g) H ds vs → ds.length = is.length →
    (∀ σ', wipe σ' vs0 = wipe σ vs0 → Sok M (setsD env is ds) g σ' H → Q σ' H) → gNames is vs σ H Q
  | [], [], vs, env, g, σ, H, Q, hi, s, r, hl, k => ⟨r, k σ rfl s⟩
  | i :: is, d :: ds, vs, env, g, σ, H, Q, hi, s, r, hl, k => by
    obtain ⟨v, us, e, r1, r2⟩ := r
    exact ⟨v, us, e, gNames_runC (fun j hj => hi j (by simp [hj])) (s.set r1) r2 (by simpa using hl) fun σ' w s' => k σ' (w.trans (wipe_set (hi i (by simp)))) s'⟩
theorem wgc_tup {K : PySem.W.Frag} {vs : List Nat} {env : DEnv} {g : G} {is : List Nat} {n : Nat} {ds : List D} {Ψ : DEnv → G → Prop} (hi : ∀ i ∈ is, i ∈ vs) (hn : n = is.length) (hl : ds.length = n) (h : Ψ (setsD env is ds) g) : WGc vs (gTup K n (gNames is)) (.tup ds) env g Ψ := fun M σ H s v r Q k => by
  obtain ⟨a, us, e, m, h1, r1⟩ := r
  exact ⟨a, us, e, .of h1, by rw [r1.length, hl], gNames_runC hi s r1 (hl.trans hn) fun σ' w s' => k _ g σ' H h w .refl s'⟩
/-- D set aside beside M -/
def MD (M : Addr → Prop) (p : Addr) : Addr → Prop := fun a => M a ∨ a = p
section
variable {env : DEnv} {g : G} {Ψ : D → G → Prop} {wi : TI} {gt : TG} {tt : TT} {te : TE} {vs : List Nat}
theorem ye_lc (h : YI wi env g fun xs kc g1 => ∃ Iv : Nat → List D → G → Prop, Iv 0 [] g1 ∧ (∀ i acc gg, Iv i acc gg → ∀ c ∈ kc, c ∈ gg) ∧
    (∀ (i : Nat) d acc gg, xs[i]? = some d → Iv i acc gg → WGc vs gt d (wipeD env vs) gg fun e2 g2 => YT tt e2 g2 fun b g3 => if b = true then YE te e2 g3 fun y g4 => acc.length < 1000000 ∧ Iv (i + 1) (acc ++ [y]) g4 else Iv (i + 1) acc g3) ∧
    ∀ acc gg, Iv xs.length acc gg → Ψ (.lst acc) gg) : YE (tLc wi gt tt te vs) env g Ψ := fun M σ H s Q k =>
  h M σ H s _ fun xs kc g1 J H1 ⟨Iv, i0, ik, it, ie⟩ t1 c1 go => by
    intro Dl hD
    obtain ⟨Gp, Y, w, gp, gy⟩ := go
    have s1 := s.to t1 c1
    have nM : ¬ M Dl := fun z => c1.dom Dl z hD
    have nG1 : Dl ∉ ks g1 := fun z => new_rep c1 hD (.inr z)
    have lq : ∀ {gg : G} {H' : Hp}, Tr g1 H1 gg H' → Leq (MM M g1) (MM (MD M Dl) gg) H1 H' := fun t => .of (fun a o n e => t.kp a o e fun z => n (.inr z)) fun a n e z => by
      rcases z with (z | z) | z
      · exact n (.inl z)
      · subst z; exact e hD
      · rcases t.nw a z with q | q
        · exact n (.inr q)
        · exact e q
    have cM : ∀ {gg : G} {H' : Hp}, Cok (MD M Dl) gg H' → Cok M gg H' := fun c => ⟨fun a m hm => by
      obtain ⟨o, h1, h2⟩ := c.cells a m hm
      exact ⟨o, h1, h2.mono ⟨fun _ _ _ e => e, fun a n _ z => n (z.elim (fun q => .inl (.inl q)) .inr)⟩⟩, c.nd, fun a z => c.dom a (.inl z), fun a h z => c.dis a h (.inl z)⟩
    have sM : ∀ {gg : G} {H' : Hp}, Tr g1 H1 gg H' → Cok (MD M Dl) gg H' → Sok (MD M Dl) (wipeD env vs) gg (L2.wipe σ vs) H' := fun {gg H'} t c => by
      have sw := s1.wipe vs
      exact { c with len := sw.len, slots := fun i d e => let ⟨v, h1, h2⟩ := sw.slots i d e; ⟨v, h1, h2.mono (lq t)⟩ }
    refine lc_it w (fun i H' => ∃ acc gg us, Iv i acc gg ∧ Tr g1 H1 gg H' ∧ Dl ∉ ks gg ∧ Cok (MD M Dl) gg H' ∧ H' Dl = some (.lst us) ∧ Reps (MM (MD M Dl) gg) H' acc us) ?_ (fun i H' _ ⟨acc, gg, us, h1, h2, h3, h4, h5, h6⟩ => gp (MD M Dl) gg H' (lq h2) h4 (ik i acc gg h1)) ?_ ?_
    · refine ⟨[], g1, [], i0, .new hD, nG1, ⟨fun a m hm => ?_, c1.nd, fun a z => ?_, fun a h z => z.elim (c1.dis a h) (by rintro rfl; exact nG1 h)⟩, upd_same, rfl⟩
      · obtain ⟨o, h1, h2⟩ := c1.cells a m hm
        exact ⟨o, ex_new hD a o h1, h2.mono (lq (.new hD))⟩
      · rcases z with z | z
        · rw [upd_ne (by rintro rfl; exact nM z)]; exact c1.dom a z
        · rw [z, upd_same]; simp
    · rintro i x H' H2 hi ⟨acc, gg, us, h1, h2, h3, h4, h5, h6⟩ y
      have ex : xs[i]? = some (xs[i]'hi) := by simp [hi]
      obtain ⟨y1, y2⟩ := gy i (MD M Dl) H' x H2 gg _ (lq h2) h4 (ik i acc gg h1) ex y
      have t2 : Tr g1 H1 gg H2 := h2.trans (.ex y1)
      refine it i _ acc gg ex h1 (MD M Dl) (L2.wipe σ vs) H2 (sM t2 (h4.grow y1)) x y2 _ fun e2 g2 σ2 H3 q2 w2 t3 s3 => ⟨w2.trans (wipe_wipe σ vs), ?_⟩
      refine q2 (MD M Dl) σ2 H3 s3 _ fun b g3 H4 q3 t4 c4 => ?_
      have t34 : Tr gg H2 g3 H4 := t3.trans t4
      have hD2 : H2 Dl = some (.lst us) := y1 Dl _ h5
      have hD4 : H4 Dl = some (.lst us) := t34.kp Dl _ hD2 h3
      have n3 : Dl ∉ ks g3 := fun z => by
        rcases t34.nw Dl z with q | q
        · exact h3 q
        · rw [hD2] at q; cases q
      have r4 : Reps (MM (MD M Dl) g3) H4 acc us := ((h6.mono ((Tr.ex (g := gg) y1).leq h4.dom))).mono (t34.leq (h4.grow y1).dom)
      cases b with
      | true =>
        refine (show YE te e2 g3 _ from q3) (MD M Dl) σ2 H4 (s3.to t4 c4) _ fun d g5 v H5 ⟨hl, q5⟩ t5 c5 r5 => ?_
        have hD5 : H5 Dl = some (.lst us) := t5.kp Dl _ hD4 n3
        have n5 : Dl ∉ ks g5 := fun z => by
          rcases t5.nw Dl z with q | q
          · exact n3 q
          · rw [hD4] at q; cases q
        have r5' : Reps (MM (MD M Dl) g5) H5 acc us := r4.mono (t5.leq c4.dom)
        have lD : Leq (MM (MD M Dl) g5) (MM (MD M Dl) g5) H5 (upd H5 Dl (.lst (us ++ [v]))) := ⟨fun a o n e => by rw [upd_ne (fun z => n (.inl (.inr z)))]; exact e, fun a n _ => n⟩
        refine ⟨us, hD5, by rw [r5'.length, sizeLine_eq]; omega, acc ++ [d], g5, us ++ [v], q5, ?_, n5, ⟨fun a m hm => ?_, c5.nd, fun a z => ?_, c5.dis⟩, upd_same, (r5'.append (.one r5)).mono lD⟩
        · have t15 : Tr g1 H1 g5 H5 := t2.trans (t34.trans t5)
          refine ⟨fun a o e n => ?_, fun a n => ?_, t15.nw⟩
          · rw [upd_ne (fun z => by rw [z, hD] at e; cases e)]; exact t15.kp a o e n
          · rw [upd_ne (fun z => by rw [z] at n; exact n hD)]; exact t15.th a n
        · obtain ⟨o, h7, h8⟩ := c5.cells a m hm
          have ne : a ≠ Dl := by
            rintro rfl
            exact n5 (List.mem_map.mpr ⟨(a, m), hm, rfl⟩)
          exact ⟨o, by rw [upd_ne ne]; exact h7, h8.mono lD⟩
        · by_cases hz : a = Dl
          · rw [hz, upd_same]; simp
          · rw [upd_ne hz]; exact c5.dom a z
      | false => exact ⟨acc, g3, us, q3, t2.trans t34, n3, c4, hD4, r4⟩
    · rintro H' ⟨acc, gg, us, h1, h2, h3, h4, h5, h6⟩
      refine k _ gg _ H' (ie acc gg h1) (t1.trans h2) (cM h4) ⟨Dl, us, rfl, fun z => z.elim nM h3, h5, h6.mono ⟨fun _ _ _ e => e, fun a n _ z => n (z.elim (fun q => .inl (.inl q)) .inr)⟩⟩
end
end Dl
set_option Elab.async false
set_option linter.all false
set_option maxRecDepth 100000
set_option maxHeartbeats 2000000
set_option autoImplicit false
namespace Dl
open PySem PySem.Spec PyProof.Rows L2
/-! ### objects -/
def dlf : List Str → List D → Str → Option D
  | n :: ns, x :: xs, f => if f = n then some x else dlf ns xs f
  | _, _, _ => none
theorem dlf_ok {M : Addr → Prop} {H : Hp} : ∀ {ns : List Str} {xs : List D} {vs : List V} {f : Str} {d : D}, Reps M H xs vs → dlf ns xs f = some d → ∃ v, (ns.zip vs).lookup f = some v ∧ Rep M H d v
  | [], _, _, _, _, _, e => by simp [dlf] at e
  | _ :: _, [], _, _, _, _, e => by simp [dlf] at e
  | n :: ns, x :: xs, vs, f, d, r, e => by
    obtain ⟨u, us, e1, r1, r2⟩ := r
    subst e1
    unfold dlf at e
    by_cases h : f = n
    · rw [if_pos h] at e; cases e
      exact ⟨u, by rw [List.zip_cons_cons, List.lookup_cons, show (f == n) = true from by simp [h]], r1⟩
    · rw [if_neg h] at e
      obtain ⟨v, h1, h2⟩ := dlf_ok r2 e
      exact ⟨v, by rw [List.zip_cons_cons, List.lookup_cons, show (f == n) = false from by simp [h]]; exact h1, h2⟩
theorem dlf_none : ∀ {ns : List Str} {vs : List V} {f : Str}, f ∉ ns → (ns.zip vs).lookup f = none
  | [], _, _, _ => rfl
  | _ :: _, [], _, _ => rfl
  | n :: ns, v :: vs, f, h => by
    rw [List.zip_cons_cons, List.lookup_cons, show (f == n) = false from by simp only [List.mem_cons, not_or] at h; simp [h.1]]
    exact dlf_none (fun z => h (by simp [z]))
inductive OV (g : G) : D → Addr → List Str → List D → Prop
  | im (C : Addr) (ns : List Str) (xs : List D) : OV g (.obj C ns xs) C ns xs
  | mu (a C : Addr) (ns : List Str) (xs : List D) (h : (a, MO.obj C ns xs) ∈ g) : OV g (.v (.ref a)) C ns xs
theorem OV.at {M : Addr → Prop} {g : G} {H : Hp} {d : D} {u : V} {C : Addr} {ns : List Str} {xs : List D} (c : Cok M g H) (r : Rep (MM M g) H d u) (l : OV g d C ns xs) :
    ∃ a dx vs, u = .ref a ∧ H a = some (.ins C dx (ns.zip vs)) ∧ ns.length = xs.length ∧ Reps (MM M g) H xs vs := by
  cases l with
  | im => obtain ⟨a, dx, vs, e, n, h, hl, q⟩ := r; exact ⟨a, dx, vs, e, h, hl, q⟩
  | mu a _ _ _ h =>
    obtain ⟨o, h1, dx, vs, e, hl, q⟩ := c.cells a _ h
    subst e
    exact ⟨a, dx, vs, r, h1, hl, q⟩
section
variable {K : PySem.W.Frag} {env : DEnv} {g : G} {te ta tb : TE} {tr : TA} {Ψ : D → G → Prop}
theorem ye_fld {f : Str} (h : YE ta env g fun x g1 => ∃ C ns xs d, OV g1 x C ns xs ∧ Cls K C ∧ NoAttr K C f ∧ dlf ns xs f = some d ∧ Ψ d g1) : YE (tFld K ta f) env g Ψ := fun M σ H s Q k =>
  h M σ H s _ fun x g1 u H1 ⟨C, ns, xs, d, ov, hc, hn, hl, q⟩ t1 c1 r1 => by
    obtain ⟨a, dx, vs, e, h1, _, r⟩ := ov.at c1 r1
    obtain ⟨v, h2, r2⟩ := dlf_ok r hl
    exact ⟨a, C, dx, _, v, e, h1, hc, hn, h2, k d g1 v H1 q t1 c1 r2⟩
theorem ye_meth {C : Addr} {m : Str} {R : RS} {X : XK} (h : YE ta env g fun x g1 => ∃ ns xs, OV g1 x C ns xs ∧ m ∉ ns ∧ YA tr env g1 fun ds g2 => ∃ gc gr, g2 = gc ++ gr ∧ R.r (x :: ds) gc fun d g' => Ψ d (g' ++ gr)) :
    YE (tMeth C m (spR R) [] X ta tr) env g Ψ := fun M σ H s Q k =>
  h M σ H s _ fun x g1 u H1 ⟨ns, xs, ov, hm, h2⟩ t1 c1 r1 => by
    obtain ⟨a, dx, vs, e, h1, _, r⟩ := ov.at c1 r1
    refine ⟨a, dx, _, e, h1, dlf_none hm, h2 M σ H1 (s.to t1 c1) _ fun ds g2 ws H2 ⟨gc, gr, e2, h3⟩ t2 c2 r2 => ?_⟩
    subst e2
    rw [List.append_nil]
    exact call_core c2 (.cons (t2.rep c1.dom r1) r2) h3 (fun d g' v H' q t c r => k d g' v H' q ((t1.trans t2).trans t) c r) X
theorem ye_methP {C : Addr} {m : Str} {R : RS} {X : XK} (h : YE ta env g fun x g1 => ∃ ns xs, OV g1 x C ns xs ∧ m ∉ ns ∧ YA tr env g1 fun ds g2 => R.r (x :: ds) [] fun d g' => Ψ d (g' ++ g2)) :
    YE (tMeth C m (spR R) [] X ta tr) env g Ψ := ye_meth (h.mono fun x g1 ⟨ns, xs, ov, hm, h2⟩ => ⟨ns, xs, ov, hm, fun M σ H s Q k => h2 M σ H s Q fun ds g2 vs H2 q t c r => k ds g2 vs H2 ⟨[], g2, rfl, q⟩ t c r⟩)
/-- C(..): the new instance is a cell while __init__ runs, then immutable -/
theorem ye_make {C : Addr} {R : RS} {X : XK} (h : YA tr env g fun ds g1 => ∀ a, a ∉ ks g1 → R.r (.v (.ref a) :: ds) [(a, .obj C [] [])] fun d g' => d = .v .non ∧ ∃ ns xs, g' = [(a, .obj C ns xs)] ∧ Ψ (.obj C ns xs) g1) :
    YE (tMake C (spR R) [] X tr) env g Ψ := fun M σ H s Q k =>
  h M σ H s _ fun ds g1 vs H1 h1 t1 c1 r1 => by
    intro a dx ha hdx hne
    rw [List.append_nil]
    have na : a ∉ ks g1 := fun z => new_rep c1 ha (.inr z)
    have nMa : ¬ M a := fun z => c1.dom a z ha
    have ex : ∀ b o, H1 b = some o → upd (upd H1 dx (.own a)) a (.ins C dx []) b = some o := fun b o e => by
      rw [upd_ne (ne_of_none e ha), upd_ne (ne_of_none e hdx)]; exact e
    have lq : Leq (MM M g1) (MM (MM M g1) [(a, MO.obj C [] [])]) H1 (upd (upd H1 dx (.own a)) a (.ins C dx [])) := ⟨fun b o _ e => ex b o e, fun b n e z => by
      rcases z with z | z
      · exact n z
      · have : b = a := by simpa [ks] using z
        rw [this] at e; exact e ha⟩
    have c2 : Cok (MM M g1) [(a, MO.obj C [] [])] (upd (upd H1 dx (.own a)) a (.ins C dx [])) := by
      refine ⟨fun b m hm => ?_, by simp [ks], fun b z => ?_, fun b h z => ?_⟩
      · have e : (b, m) = (a, MO.obj C [] []) := by simpa using hm
        cases e
        exact ⟨_, upd_same, dx, [], rfl, rfl, rfl⟩
      · have : H1 b ≠ none := by
          rcases z with z | z
          · exact c1.dom b z
          · obtain ⟨⟨b', m⟩, hm, e⟩ := List.mem_map.mp z
            obtain ⟨o, h2, _⟩ := c1.cells b' m hm
            rw [← e, h2]; simp
        cases q : H1 b with
        | none => exact absurd q this
        | some o => rw [ex b o q]; simp
      · have : b = a := by simpa [ks] using h
        subst this
        exact z.elim nMa na
    refine ⟨MM M g1, [(a, MO.obj C [] [])], .v (.ref a) :: ds, c2, .cons rfl (r1.mono lq), R.mono _ _ _ _ ?_ (h1 a na)⟩
    rintro d g' ⟨rfl, ns, xs, rfl, q⟩ v H2 t2 c3 r3
    refine ⟨r3, ?_⟩
    obtain ⟨o, h4, dx', us, e4, hl, r4⟩ := c3.cells a (.obj C ns xs) (by simp)
    subst e4
    have ex2 : ∀ b o, H1 b = some o → H2 b = some o := fun b o e => t2.kp b o (ex b o e) (by
      simp [ks]; rintro rfl; rw [ha] at e; cases e)
    have lq2 : Leq (MM (MM M g1) [(a, MO.obj C ns xs)]) (MM M g1) H2 H2 := ⟨fun _ _ _ e => e, fun b n _ z => n (.inl z)⟩
    have c4 : Cok M g1 H2 := c1.grow ex2
    refine k _ g1 _ H2 q (t1.trans (.ex ex2)) c4 ⟨a, dx', us, rfl, fun z => z.elim nMa na, h4, hl, r4.mono lq2⟩
/-- self.f = e while self is a cell -/
theorem putF_zip : ∀ {ns : List Str} {vs : List V} {f : Str} {v : V}, f ∉ ns → ns.length = vs.length → putF f v (ns.zip vs) = (ns ++ [f]).zip (vs ++ [v])
  | [], [], f, v, _, _ => rfl
  | n :: ns, w :: vs, f, v, h, hl => by
    simp only [List.mem_cons, not_or] at h
    have e := putF_zip (f := f) (v := v) h.2 (by simpa using hl)
    rw [List.zip_cons_cons]
    unfold putF
    rw [e]
    simp [Ne.symm h.1]
end
/-- a cell changed -/
def setG (g : G) (a : Addr) (m : MO) : G := g.map fun p => if p.1 = a then (a, m) else p
theorem ks_setG (g : G) (a : Addr) (m : MO) : ks (setG g a m) = ks g := by
  unfold ks setG
  rw [List.map_map]
  apply List.map_congr_left
  intro p _
  show (if p.1 = a then (a, m) else p).1 = p.1
  by_cases h : p.1 = a
  · rw [if_pos h]; exact h.symm
  · rw [if_neg h]
theorem cok_set {M : Addr → Prop} {g : G} {H : Hp} {a : Addr} {m m' : MO} {o' : HO} (c : Cok M g H) (h : (a, m) ∈ g) (r : MRep (MM M g) H m' o') : Cok M (setG g a m') (upd H a o') ∧ Tr g H (setG g a m') (upd H a o') := by
  have ha : a ∈ ks g := List.mem_map.mpr ⟨(a, m), h, rfl⟩
  have lq : Leq (MM M g) (MM M (setG g a m')) H (upd H a o') := ⟨fun b o n e => by rw [upd_ne (by rintro rfl; exact n (.inr ha))]; exact e, fun b n _ z => n (z.elim .inl fun z => .inr (by rw [ks_setG] at z; exact z))⟩
  refine ⟨⟨fun b mb hb => ?_, by rw [ks_setG]; exact c.nd, fun b z => ?_, fun b h => c.dis b (by rw [ks_setG] at h; exact h)⟩, fun b o e n => ?_, fun b n => ?_, fun b z => .inl (by rw [ks_setG] at z; exact z)⟩
  · obtain ⟨p, hp, e⟩ := List.mem_map.mp (show (b, mb) ∈ g.map _ from hb)
    by_cases q : p.1 = a
    · rw [if_pos q] at e
      cases e
      exact ⟨o', upd_same, r.mono lq⟩
    · rw [if_neg q] at e
      subst e
      obtain ⟨o, h1, h2⟩ := c.cells b mb hp
      exact ⟨o, by rw [upd_ne q]; exact h1, h2.mono lq⟩
  · by_cases q : b = a
    · rw [q, upd_same]; simp
    · rw [upd_ne q]; exact c.dom b z
  · rw [upd_ne (by rintro rfl; exact n ha)]; exact e
  · by_cases q : b = a
    · rw [q, upd_same]; simp
    · rw [upd_ne q]; exact n
section
variable {K : PySem.W.Frag} {env : DEnv} {g : G} {te ta tb tv : TE} {tr : TA} {Ψ : D → G → Prop} {E : DE}
theorem ws_fld {f : Str} (h : YE tv env g fun d g1 => YE ta env g1 fun x g2 => ∃ a C ns xs, x = .v (.ref a) ∧ (a, MO.obj C ns xs) ∈ g2 ∧ Cls K C ∧ NoAttr K C f ∧ f ∉ ns ∧ ns.length < 100 ∧ E.nx env (setG g2 a (.obj C (ns ++ [f]) (xs ++ [d])))) : WS (sFld K ta tv f) env g E := fun M σ H s Z k =>
  h M σ H s _ fun d g1 v H1 h1 t1 c1 r1 => h1 M σ H1 (s.to t1 c1) _ fun x g2 u H2 ⟨a, C, ns, xs, ex, hm, hc, hn, hf, hl, q⟩ t2 c2 r2 => by
    subst ex
    obtain ⟨o, h3, dx, vs, e, hl2, r3⟩ := c2.cells a _ hm
    subst e
    have hv : ns.length = vs.length := by rw [r3.length]; exact hl2
    have r4 : MRep (MM M g2) H2 (.obj C (ns ++ [f]) (xs ++ [d])) (.ins C dx (putF f v (ns.zip vs))) := ⟨dx, vs ++ [v], by rw [putF_zip hf hv], by simp [hl2], r3.append (.one (t2.rep c1.dom r1))⟩
    obtain ⟨c3, t3⟩ := cok_set c2 hm r4
    exact ⟨a, C, dx, _, r2, h3, hc, hn, by rw [zip_len hv]; omega, k.nx _ _ σ _ q ((t1.trans t2).trans t3) ((s.to (t1.trans t2) c2).to t3 c3)⟩
end
/-! ### calls of built-ins, methods of built-in types -/
section
variable {K : PySem.W.Frag} {env : DEnv} {g : G} {te ta tb tv : TE} {tr : TA} {Ψ : D → G → Prop} {E : DE}
theorem ye_cb {r : List V → Hp → VK → Prop} (h : YA tr env g fun ds g1 => RC r ds g1 Ψ) : YE (tCB r tr) env g Ψ := fun M σ H s Q k =>
  h M σ H s _ fun ds g1 vs H1 h1 t1 c1 r1 => h1 M H1 c1 vs r1 Q fun d g' v H' q t c r => k d g' v H' q (t1.trans t) c r
theorem ye_bm {T : String} {r : V → List V → Hp → VK → Prop} (h : YE ta env g fun x g1 => RTy K T x g1 ∧ YA tr env g1 fun ds g2 => RM r x ds g2 Ψ) : YE (tBM K T r ta tr) env g Ψ := fun M σ H s Q k =>
  h M σ H s _ fun x g1 u H1 ⟨hy, h1⟩ t1 c1 r1 => ⟨hy M H1 c1 u r1, h1 M σ H1 (s.to t1 c1) _ fun ds g2 vs H2 h2 t2 c2 r2 => h2 M H2 c2 u vs (t2.rep c1.dom r1) r2 Q fun d g' v H' q t c r => k d g' v H' q ((t1.trans t2).trans t) c r⟩
theorem ye_bm0 {T : String} {r : V → List V → Hp → VK → Prop} (h : YE ta env g fun x g1 => RTy K T x g1 ∧ RM r x [] g1 Ψ) : YE (tBM0 K T r ta) env g Ψ := fun M σ H s Q k =>
  h M σ H s _ fun x g1 u H1 ⟨hy, h1⟩ t1 c1 r1 => ⟨hy M H1 c1 u r1, h1 M H1 c1 u [] r1 .nil Q fun d g' v H' q t c r => k d g' v H' q (t1.trans t) c r⟩
theorem ty_list {d : D} {xs : List D} (l : LV g d xs) : RTy K "list" d g := fun M H c u r => by
  obtain ⟨a, vs, e, h, q⟩ := l.at c r
  subst e
  exact .inl ⟨rfl, vs, .of h⟩
theorem ty_str {s : Str} : RTy K "str" (.v (.str s)) g := fun M H c u r => by
  rw [show u = .str s from r]; rfl
theorem reps1 {M : Addr → Prop} {H : Hp} {d : D} {us : List V} (r : Reps M H [d] us) : ∃ u, us = [u] ∧ Rep M H d u := by
  obtain ⟨u, us, e, r1, r2⟩ := r
  exact ⟨u, by rw [e, show us = [] from r2], r1⟩
theorem reps2 {M : Addr → Prop} {H : Hp} {d e : D} {us : List V} (r : Reps M H [d, e] us) : ∃ u w, us = [u, w] ∧ Rep M H d u ∧ Rep M H e w := by
  obtain ⟨u, us, e, r1, r2⟩ := r
  obtain ⟨w, e2, r3⟩ := reps1 r2
  exact ⟨u, w, by rw [e, e2], r1, r3⟩
theorem rc_flat1 {r : List V → Hp → VK → Prop} {x z : V} (h : ∀ (H : Hp) (Q : VK), Q z H → r [x] H Q) (q : Ψ (.v z) g) : RC r [.v x] g Ψ := fun M H c us ru Q k => by
  obtain ⟨u, e, r1⟩ := reps1 ru
  rw [e, show u = x from r1]
  exact h H Q (k _ g z H q .refl c rfl)
/-- len -/
def rLenA (K : PySem.W.Frag) : List V → Hp → VK → Prop := fun xs H Q => ∃ x n, xs = [x] ∧ LenV K x H n ∧ Q (.int n) H
theorem rc_len {d : D} {xs : List D} (l : SV g d xs) (q : Ψ (.v (.int xs.length)) g) : RC (rLenA K) [d] g Ψ := fun M H c us ru Q k => by
  obtain ⟨u, e, r1⟩ := reps1 ru
  obtain ⟨a, vs, e1, h1, r2⟩ := l.at K c r1
  subst e1
  refine ⟨_, xs.length, e, ?_, k _ g _ H q .refl c rfl⟩
  rcases h1 with h1 | h1
  · exact .inl ⟨vs, h1, r2.length.symm⟩
  · exact .inr ⟨vs, h1, r2.length.symm⟩
theorem rc_lenS {s : Str} (hl : s.length ≤ 1000000) (q : Ψ (.v (.int s.length)) g) : RC (rLenA K) [.v (.str s)] g Ψ := rc_flat1 (fun H Q h => ⟨_, s.length, rfl, ⟨by rw [sizeLine_eq]; omega, rfl⟩, h⟩) q
/-- isinstance -/
def dTy : D → Option String
  | .v .non => some "NoneType"
  | .v (.bl _) => some "bool"
  | .v (.int _) => some "int"
  | .v (.str _) => some "str"
  | .lst _ => some "list"
  | .tup _ => some "tuple"
  | .dic _ _ => some "dict"
  | _ => none
theorem rc_all {d : D} {bs : List Bool} {xs : List D} (l : LV g d xs) (e : xs = bs.map fun b => D.v (.bl b)) (q : Ψ (.v (.bl (bs.all id))) g) : RC (rAll K) [d] g Ψ := fun M H c us ru Q k => by
  obtain ⟨u, e0, r1⟩ := reps1 ru
  obtain ⟨a, vs, e1, h1, r2⟩ := l.at c r1
  subst e1 e
  have e2 : vs = bs.map V.bl := by
    have : Reps (MM M g) H ((bs.map V.bl).map D.v) vs := by rw [List.map_map]; exact r2
    exact this.flat
  subst e2
  exact ⟨a, bs, e0, .of h1, k _ g _ H q .refl c rfl⟩
theorem rc_any {d : D} {bs : List Bool} {xs : List D} (l : LV g d xs) (e : xs = bs.map fun b => D.v (.bl b)) (q : Ψ (.v (.bl (bs.any id))) g) : RC (rAny K) [d] g Ψ := fun M H c us ru Q k => by
  obtain ⟨u, e0, r1⟩ := reps1 ru
  obtain ⟨a, vs, e1, h1, r2⟩ := l.at c r1
  subst e1 e
  have e2 : vs = bs.map V.bl := by
    have : Reps (MM M g) H ((bs.map V.bl).map D.v) vs := by rw [List.map_map]; exact r2
    exact this.flat
  subst e2
  exact ⟨a, bs, e0, .of h1, k _ g _ H q .refl c rfl⟩
/-- list(xs) -/
def rListA (K : PySem.W.Frag) : List V → Hp → VK → Prop := fun xs H Q => ∃ p ys, xs = [.ref p] ∧ (SqL K H p ys ∨ SqT K H p ys) ∧ ∀ l, H l = none → Q (.ref l) (upd H l (.lst ys))
theorem rc_list {d : D} {xs : List D} (l : SV g d xs) (q : Ψ (.lst xs) g) : RC (rListA K) [d] g Ψ := fun M H c us ru Q k => by
  obtain ⟨u, e0, r1⟩ := reps1 ru
  obtain ⟨a, vs, e1, h1, r2⟩ := l.at K c r1
  subst e1
  exact ⟨a, vs, e0, h1, fun p hp => k _ g _ _ q (.new hp) (c.grow (ex_new hp)) ⟨p, vs, rfl, new_rep c hp, upd_same, r2.mono ((Tr.new (g := g) hp).leq c.dom)⟩⟩
/-- a new mutable cell -/
theorem new_cell {M : Addr → Prop} {g : G} {H : Hp} {p : Addr} {o : HO} {m : MO} (c : Cok M g H) (hp : H p = none) (r : MRep (MM M g) H m o) : Cok M (g ++ [(p, m)]) (upd H p o) ∧ Tr g H (g ++ [(p, m)]) (upd H p o) := by
  have np := new_rep c hp
  have lq : Leq (MM M g) (MM M (g ++ [(p, m)])) H (upd H p o) := ⟨fun b ob n e => by rw [upd_ne (ne_of_none e hp)]; exact e, fun b n e z => by
    rcases z with z | z
    · exact n (.inl z)
    · unfold ks at z
      rw [List.map_append, List.mem_append] at z
      rcases z with z | z
      · exact n (.inr z)
      · have : b = p := by simpa using z
        rw [this] at e; exact e hp⟩
  refine ⟨⟨fun b mb hb => ?_, ?_, fun b z => ?_, fun b h z => ?_⟩, fun b o' e _ => by rw [upd_ne (ne_of_none e hp)]; exact e, fun b n => ?_, fun b z => ?_⟩
  · rcases List.mem_append.mp hb with hb | hb
    · obtain ⟨o', h1, h2⟩ := c.cells b mb hb
      exact ⟨o', by rw [upd_ne (ne_of_none h1 hp)]; exact h1, h2.mono lq⟩
    · have e : (b, mb) = (p, m) := by simpa using hb
      cases e
      exact ⟨o, upd_same, r.mono lq⟩
  · unfold ks
    rw [List.map_append]
    refine List.nodup_append.mpr ⟨c.nd, by simp, fun a ha b hb e => ?_⟩
    have : b = p := by simpa using hb
    rw [e, this] at ha
    exact np (.inr ha)
  · by_cases q : b = p
    · rw [q, upd_same]; simp
    · rw [upd_ne q]; exact c.dom b z
  · unfold ks at h
    rw [List.map_append, List.mem_append] at h
    rcases h with h | h
    · exact c.dis b h z
    · have : b = p := by simpa using h
      subst this
      exact c.dom b z hp
  · by_cases q : b = p
    · rw [q, upd_same]; simp
    · rw [upd_ne q]; exact n
  · unfold ks at z
    rw [List.map_append, List.mem_append] at z
    rcases z with z | z
    · exact .inl z
    · have : b = p := by simpa using z
      rw [this]; exact .inr hp
/-- a list display as a cell -/
theorem ye_lstM (h : YA tr env g fun ds g1 => ds.length ≤ 1000000 ∧ ∀ a, a ∉ ks g1 → Ψ (.v (.ref a)) (g1 ++ [(a, .lst ds)])) : YE (tLst tr) env g Ψ := fun M σ H s Q k =>
  h M σ H s _ fun ds g1 vs H1 ⟨hl, h1⟩ t1 c1 r1 => ⟨by rw [r1.length, sizeLine_eq]; omega, fun p hp => by
    obtain ⟨c2, t2⟩ := new_cell (o := .lst vs) (m := .lst ds) c1 hp ⟨vs, rfl, r1⟩
    exact k _ _ _ _ (h1 p fun z => new_rep c1 hp (.inr z)) (t1.trans t2) c2 rfl⟩
/-- {} as a cell -/
theorem ye_dnewM (h : ∀ a, a ∉ ks g → Ψ (.v (.ref a)) (g ++ [(a, .dic [] [])])) : YE tDNewK env g Ψ := fun M σ H s Q k p hp => by
  obtain ⟨c2, t2⟩ := new_cell (o := .dK []) (m := .dic [] []) s.toCok hp ⟨[], rfl, rfl, rfl⟩
  exact k _ _ _ _ (h p fun z => new_rep s.toCok hp (.inr z)) t2 c2 rfl
/-- list(xs) as a cell -/
theorem rc_listM {d : D} {xs : List D} (l : SV g d xs) (q : ∀ a, a ∉ ks g → Ψ (.v (.ref a)) (g ++ [(a, .lst xs)])) : RC (rListA K) [d] g Ψ := fun M H c us ru Q k => by
  obtain ⟨u, e0, r1⟩ := reps1 ru
  obtain ⟨a, vs, e1, h1, r2⟩ := l.at K c r1
  subst e1
  refine ⟨a, vs, e0, h1, fun p hp => ?_⟩
  obtain ⟨c2, t2⟩ := new_cell (o := .lst vs) (m := .lst xs) c hp ⟨vs, rfl, r2⟩
  exact k _ _ _ _ (q p fun z => new_rep c hp (.inr z)) t2 c2 rfl
/-- append, extend, pop upon a cell -/
theorem rm_append {a : Addr} {xs : List D} {d : D} (h : (a, MO.lst xs) ∈ g) (hl : xs.length < 1000000) (q : Ψ (.v .non) (setG g a (.lst (xs ++ [d])))) : RM rAppend (.v (.ref a)) [d] g Ψ := fun M H c u us ru rs Q k => by
  obtain ⟨w, e0, r1⟩ := reps1 rs
  obtain ⟨o, h1, vs, e, r2⟩ := c.cells a _ h
  subst e
  obtain ⟨c2, t2⟩ := cok_set (m' := .lst (xs ++ [d])) (o' := .lst (vs ++ [w])) c h ⟨_, rfl, r2.append (.one r1)⟩
  exact ⟨a, vs, w, ru, e0, h1, by rw [r2.length, sizeLine_eq]; omega, k _ _ _ _ q t2 c2 rfl⟩
theorem rm_extend {a : Addr} {xs ys : List D} {d : D} (h : (a, MO.lst xs) ∈ g) (l : LV g d ys) (hl : xs.length + ys.length < 1000000) (q : Ψ (.v .non) (setG g a (.lst (xs ++ ys)))) : RM rExtend (.v (.ref a)) [d] g Ψ := fun M H c u us ru rs Q k => by
  obtain ⟨w, e0, r1⟩ := reps1 rs
  obtain ⟨o, h1, vs, e, r2⟩ := c.cells a _ h
  subst e
  obtain ⟨b, ws, e3, h3, r3⟩ := l.at c r1
  subst e3
  obtain ⟨c2, t2⟩ := cok_set (m' := .lst (xs ++ ys)) (o' := .lst (vs ++ ws)) c h ⟨_, rfl, r2.append r3⟩
  exact ⟨a, b, vs, ws, ru, e0, h1, h3, by rw [r2.length, r3.length, sizeLine_eq]; omega, k _ _ _ _ q t2 c2 rfl⟩
theorem rm_popAt {a : Addr} {xs : List D} {i : Int} {j : Nat} {d : D} (h : (a, MO.lst xs) ∈ g) (hi : seqIndex? i xs.length = some j) (b1 : -(2 ^ 63) ≤ i) (b2 : i < 2 ^ 63) (hd : xs[j]? = some d) (q : Ψ d (setG g a (.lst (xs.eraseIdx j)))) : RM rPopAt (.v (.ref a)) [.v (.int i)] g Ψ := fun M H c u us ru rs Q k => by
  obtain ⟨w, e0, r1⟩ := reps1 rs
  obtain ⟨o, h1, vs, e, r2⟩ := c.cells a _ h
  subst e
  rw [show w = .int i from r1] at e0
  obtain ⟨v, hv, rv⟩ := r2.get hd
  obtain ⟨c2, t2⟩ := cok_set (m' := .lst (xs.eraseIdx j)) (o' := .lst (vs.eraseIdx j)) c h ⟨_, rfl, r2.eraseIdx j⟩
  exact ⟨a, vs, i, j, v, ru, e0, h1, b1, b2, by rw [r2.length]; exact hi, hv, k _ _ _ _ q t2 c2 (t2.rep c.dom rv)⟩
end
/-! ### a def keeps its promise -/
def startD (N : List Str) (ds : List D) : DEnv := ds.map some ++ List.replicate (N.length - ds.length) none
theorem sok_start {M : Addr → Prop} {g : G} {H : Hp} {N : List Str} {ds : List D} {vs : List V} (c : Cok M g H) (r : Reps (MM M g) H ds vs) : Sok M (startD N ds) g (L2.start N vs) H := by
  have hl := r.length
  refine { c with len := ?_, slots := fun i d e => ?_ }
  · unfold L2.start startD; simp [hl]
  · unfold startD at e
    unfold L2.start
    by_cases hi : i < ds.length
    · rw [List.getElem?_append_left (by simpa using hi), List.getElem?_map] at e
      cases q : ds[i]? with
      | none => rw [q] at e; simp at e
      | some d' =>
        rw [q] at e
        cases e
        obtain ⟨v, h1, h2⟩ := r.get q
        exact ⟨v, by rw [List.getElem?_append_left (by simpa [hl] using hi), List.getElem?_map, h1]; rfl, h2⟩
    · rw [List.getElem?_append_right (by simpa using hi)] at e
      rw [List.getElem?_replicate] at e
      split at e <;> cases e
theorem okW {P : Program} {w : World} {K : PySem.W.Frag} {mg : Str → Option Value} {base : Heap} {x qual : Str} {params : Arguments} {body : List Stmt} {scope : Scope} {dvs : List V} {kws : List (Str × V)} {f : Addr} {fd : FuncData} {CX : CXT} {N ps : List Str} {k : Nat} {R : RS}
    (F : FunD K x qual params body scope dvs kws f fd) (S : FnScope N ps scope) (hlen : ∀ ds g Q, R.r ds g Q → ds.length = ps.length)
    (hbody : ∀ (cdv : Value) (A : Around) (outer : List Env) (s : Shared) (H : Hp) (E : XK), Room k (A.deeper (envOfC qual scope s.heap.objs.size f cdv)) →
      ∃ t, PSs (cxOf CX P w K mg base N qual scope f cdv A outer s H E) body t ∧ ∀ ds g Q, R.r ds g Q → WS t (startD N ds) g ⟨fun _ g' => Q (.v .non) g', Q, fun _ _ => False, fun _ _ => False⟩) : FnOk P w K mg base CX (k + 1) f fd ps (spR R) := by
  refine F.ok S (fun vs H Q E ⟨M, g, ds, c, r, h⟩ => by rw [r.length]; exact hlen _ _ _ h) fun cdv A outer s H vs Q E hr ⟨M, g, ds, c, r, h⟩ => ?_
  obtain ⟨t, hp, ht⟩ := hbody cdv A outer s H E hr
  exact ⟨t, hp, ht ds g _ h M _ H (sok_start c r) _ ⟨fun e' g' σ' H' q t' s' => q _ _ t' s'.toCok rfl, fun d g' v H' q t' c' r' => q v H' t' c' r', fun _ _ _ _ z => z.elim, fun _ _ _ _ z => z.elim⟩⟩
end Dl
set_option Elab.async false
set_option linter.all false
set_option maxRecDepth 100000
set_option maxHeartbeats 2000000
set_option autoImplicit false
namespace Dl
open PySem PySem.Spec PyProof.Rows L2
/-! ### defs by names -/
section
variable {P : Program} {w : World} {K : PySem.W.Frag} {mg : Str → Option Value} {base : Heap}
/-- a def of the module, by its name -/
structure Cal (P : Program) (w : World) (K : PySem.W.Frag) (mg : Str → Option Value) (base : Heap) (CX : CXT) (k : Nat) (x : Str) (ps : List Str) (sp : Sp) : Prop where
  ex : ∃ f fd, FnOk P w K mg base CX k f fd ps sp ∧ mg x = some (.ref f) ∧ PySem.W.keepIn K (.ref f) = true ∧ Binds K fd ps []
/-- a method of the class at C -/
structure Met (P : Program) (w : World) (K : PySem.W.Frag) (mg : Str → Option Value) (base : Heap) (CX : CXT) (k : Nat) (C : Addr) (m : Str) (ps : List Str) (sp : Sp) : Prop where
  ex : ∃ f fd, FnOk P w K mg base CX k f fd ps sp ∧ Meth K C m f ∧ Binds K fd ps []
  cl : Cls K C
/-- a class that is made by C(..) -/
structure MkC (P : Program) (w : World) (K : PySem.W.Frag) (mg : Str → Option Value) (base : Heap) (CX : CXT) (k : Nat) (C : Addr) (x : Str) (ps : List Str) (sp : Sp) : Prop where
  ex : ∃ f fd, FnOk P w K mg base CX k f fd ps sp ∧ Mk K C f ∧ Binds K fd ps []
  gl : mg x = some (.ref C)
end
section
variable {X : Cx} {CX : CXT} {k : Nat} {C : Addr} {ps : List Str} {sp : Sp} {E : XK} {x m : Str} {p pos apos : Pos} {e o : Expr} {es : List Expr} {ta : TE} {t : TA}
theorem pe_cal (c : Cal X.prog X.w X.K X.mg X.base CX k x ps sp) (hr : Room k X.A) (hg : Gl X x) (hx : Passes CX X E) (ha : PA X (e :: es) t) (hdb : (x == ("__debug__" : Str)) = false := by decide)
    (he : starEach (e :: es) X.env = (false, eval e X.env) :: starEach es X.env := by rfl) (hpl : (backTo pos (starEach es X.env)).any (·.1) = false := by rfl) : PE X (.Call (.Name x p) (e :: es) [] pos) (tCall sp [] E t) := by
  obtain ⟨f, fd, F, hm, hk, hb⟩ := c.ex
  exact pe_call F hr hg hm hk hb .nil hx ha hdb he hpl
theorem pe_cal0 (c : Cal X.prog X.w X.K X.mg X.base CX k x ps sp) (hr : Room k X.A) (hg : Gl X x) (hx : Passes CX X E) (hdb : (x == ("__debug__" : Str)) = false := by decide) : PE X (.Call (.Name x p) [] [] pos) (tCall sp [] E tNil) := by
  obtain ⟨f, fd, F, hm, hk, hb⟩ := c.ex
  exact pe_call0 F hr hg hm hk hb .nil hx hdb
theorem pe_met {pl : Sem Bool} (c : Met X.prog X.w X.K X.mg X.base CX k C m ps sp) (hr : Room k X.A) (hx : Passes CX X E) (he : PE X o ta) (ha : PA X (e :: es) t)
    (hst : starEach (e :: es) X.env = (false, eval e X.env) :: starEach es X.env := by rfl) (hpl : (backTo pos (starEach es X.env)).any (·.1) = false := by rfl)
    (ht : eval (.Call (.Attribute o m apos) (e :: es) [] pos) X.env = (do
      let ov ← eval o X.env
      standAt apos.atName
      let (f, first) ← holding [ov] (getMethod ov m pl)
      callWith pos f first (backTo pos (starEach (e :: es) X.env)) (backToKw pos (keywordEach [] X.env))) := by rfl) : PE X (.Call (.Attribute o m apos) (e :: es) [] pos) (tMeth C m sp [] E ta t) := by
  obtain ⟨f, fd, F, hm, hb⟩ := c.ex
  exact pe_meth he c.cl hm F hr hb .nil hx ha hst hpl ht
theorem pe_met0 {pl : Sem Bool} (c : Met X.prog X.w X.K X.mg X.base CX k C m ps sp) (hr : Room k X.A) (hx : Passes CX X E) (he : PE X o ta)
    (ht : eval (.Call (.Attribute o m apos) [] [] pos) X.env = (do
      let ov ← eval o X.env
      standAt apos.atName
      let (f, first) ← holding [ov] (getMethod ov m pl)
      callWith pos f first (backTo pos (starEach [] X.env)) (backToKw pos (keywordEach [] X.env))) := by rfl) : PE X (.Call (.Attribute o m apos) [] [] pos) (tMeth C m sp [] E ta tNil) := by
  obtain ⟨f, fd, F, hm, hb⟩ := c.ex
  exact pe_meth0 he c.cl hm F hr hb .nil hx ht
theorem pe_mkc (c : MkC X.prog X.w X.K X.mg X.base CX k C x ps sp) (hr : Room (k + 1) X.A) (hg : Gl X x) (hx : Passes CX X E) (ha : PA X (e :: es) t) (hdb : (x == ("__debug__" : Str)) = false := by decide)
    (he : starEach (e :: es) X.env = (false, eval e X.env) :: starEach es X.env := by rfl) (hpl : (backTo pos (starEach es X.env)).any (·.1) = false := by rfl) : PE X (.Call (.Name x p) (e :: es) [] pos) (tMake C sp [] E t) := by
  obtain ⟨f, fd, F, hm, hb⟩ := c.ex
  exact pe_make hm F hr hg c.gl hb .nil hx ha hdb he hpl
/-- own __contains__ -/
theorem op_inM (c : Met X.prog X.w X.K X.mg X.base CX k C "__contains__" ps sp) (hr : Room k X.A) (hx : Passes CX X (fun _ _ _ => False)) : OpR X (compareOp .In) (rOwnIn C sp false) := by
  obtain ⟨f, fd, F, hm, hb⟩ := c.ex
  exact op_inO hm F hr hb hx
theorem op_ninM (c : Met X.prog X.w X.K X.mg X.base CX k C "__contains__" ps sp) (hr : Room k X.A) (hx : Passes CX X (fun _ _ _ => False)) : OpR X (compareOp .NotIn) (rOwnIn C sp true) := by
  obtain ⟨f, fd, F, hm, hb⟩ := c.ex
  exact op_ninO hm F hr hb hx
def rSlA (K : PySem.W.Frag) : V → Option Int → Option Int → Hp → VK → Prop := fun x lo hi H Q => rSlL K x lo hi H Q ∨ (rSlT K x lo hi H Q ∨ rSlS x lo hi H Q)
theorem sl_any : SlR X (rSlA X.K) := sl_list.or (sl_tup.or sl_str)
end
/-! ### more rules by data -/
section
variable {K : PySem.W.Frag} {env : DEnv} {g : G} {te ta tb tv : TE} {tr : TA} {tl th : TO} {Ψ : D → G → Prop} {E : DE}
inductive GN : TGs → List Nat → Prop
  | nil : GN gNil []
  | cons (i : Nat) (t : TGs) (is : List Nat) (h : GN t is) : GN (gCons (gName i) t) (i :: is)
theorem GN.eq {t : TGs} {is : List Nat} (h : GN t is) : t = gNames is := by
  induction h with
  | nil => rfl
  | cons i t is h ih => rw [ih]; rfl
theorem wg_tupN {t : TGs} {is : List Nat} {n : Nat} {d : D} {Φ : DEnv → G → Prop} (hn : GN t is) (h : ∃ ds, d = .tup ds ∧ ds.length = n ∧ n = is.length ∧ Φ (setsD env is ds) g) : WG (gTup K n t) d env g Φ := by
  obtain ⟨ds, e, h1, h2, h3⟩ := h
  rw [hn.eq, e]
  exact wg_tup h2 h1 h3
theorem wgc_tupN {vs : List Nat} {t : TGs} {is : List Nat} {n : Nat} {d : D} {Φ : DEnv → G → Prop} (hn : GN t is) (hi : ∀ i ∈ is, i ∈ vs) (h : ∃ ds, d = .tup ds ∧ ds.length = n ∧ n = is.length ∧ Φ (setsD env is ds) g) : WGc vs (gTup K n t) d env g Φ := by
  obtain ⟨ds, e, h1, h2, h3⟩ := h
  rw [hn.eq, e]
  exact wgc_tup hi h2 h1 h3
/-- slices -/
theorem yo_none {Φ : Option Int → G → Prop} (h : Φ none g) : YO tNoPart env g Φ := fun M σ H s Q k => k none g H h .refl s.toCok
theorem yo_some {Φ : Option Int → G → Prop} (h : YE te env g fun d g1 => ∃ i, d = .v (.int i) ∧ Φ (some i) g1) : YO (tPart te) env g Φ := fun M σ H s Q k =>
  h M σ H s _ fun d g1 v H1 ⟨i, e, q⟩ t1 c1 r1 => by
    subst e
    exact ⟨i, r1, k _ g1 H1 q t1 c1⟩
def cutD (xs : List D) (lo hi : Option Int) : List D := (xs.drop (HT.sIx xs.length 0 lo)).take (HT.sIx xs.length xs.length hi - HT.sIx xs.length 0 lo)
inductive SlD (g : G) (lo hi : Option Int) : D → D → Prop
  | lst (d : D) (xs : List D) (l : LV g d xs) : SlD g lo hi d (.lst (cutD xs lo hi))
  | tup (xs : List D) (h : ¬ (HT.sIx xs.length 0 lo = 0 ∧ HT.sIx xs.length xs.length hi = xs.length)) : SlD g lo hi (.tup xs) (.tup (cutD xs lo hi))
  | str (z : Str) (h : z.length ≤ 1000000) : SlD g lo hi (.v (.str z)) (.v (.str (cutS z lo hi)))
theorem cut_rep {M : Addr → Prop} {H : Hp} {xs : List D} {vs : List V} {lo hi : Option Int} (r : Reps M H xs vs) : Reps M H (cutD xs lo hi) (cutV vs lo hi) := by
  unfold cutD cutV
  rw [r.length]
  exact (r.drop _).take _
theorem ye_sl (h : YE te env g fun d g1 => YO tl env g1 fun lo g2 => YO th env g2 fun hi g3 => ∃ d', SlD g3 lo hi d d' ∧ Ψ d' g3) : YE (tSl (rSlA K) te tl th) env g Ψ := fun M σ H s Q k =>
  h M σ H s _ fun d g1 v H1 h1 t1 c1 r1 => h1 M σ H1 (s.to t1 c1) _ fun lo g2 H2 h2 t2 c2 => h2 M σ H2 ((s.to t1 c1).to t2 c2) _ fun hi g3 H3 ⟨d', sd, q⟩ t3 c3 => by
    have t : Tr g H g3 H3 := (t1.trans t2).trans t3
    have r3 : Rep (MM M g3) H3 d v := (t2.trans t3).rep c1.dom r1
    cases sd with
    | lst _ xs l =>
      obtain ⟨a, vs, e, h4, r4⟩ := l.at c3 r3
      exact .inl ⟨a, vs, e, .of h4, fun p hp => k _ g3 _ _ q (t.trans (.new hp)) (c3.grow (ex_new hp)) ⟨p, _, rfl, new_rep c3 hp, upd_same, (cut_rep r4).mono ((Tr.new (g := g3) hp).leq c3.dom)⟩⟩
    | tup xs hw =>
      obtain ⟨a, vs, e, n, h4, r4⟩ := r3
      exact .inr (.inl ⟨a, vs, e, .of h4, by rw [r4.length]; exact hw, fun p hp => k _ g3 _ _ q (t.trans (.new hp)) (c3.grow (ex_new hp)) ⟨p, _, rfl, new_rep c3 hp, upd_same, (cut_rep r4).mono ((Tr.new (g := g3) hp).leq c3.dom)⟩⟩)
    | str z hz => exact .inr (.inr ⟨z, r3, by rw [sizeLine_eq]; omega, k _ g3 _ _ q t c3 rfl⟩)
/-- f-strings -/
def YJ (ts : List TE) (acc : Str) (env : DEnv) (g : G) (Φ : Str → G → Prop) : Prop := ∀ M σ H, Sok M env g σ H → ∀ Q : Str → Hp → Prop, (∀ z g' H', Φ z g' → Tr g H g' H' → Cok M g' H' → Q z H') → tJs ts acc σ H Q
theorem yj_nil {acc : Str} {Φ : Str → G → Prop} (h : Φ acc g) : YJ [] acc env g Φ := fun M σ H s Q k => k _ g H h .refl s.toCok
theorem yj_cons {acc : Str} {t : TE} {ts : List TE} {Φ : Str → G → Prop} (h : YE t env g fun d g1 => ∃ y, d = .v (.str y) ∧ (acc ++ y).length ≤ sizeLine ∧ YJ ts (acc ++ y) env g1 Φ) : YJ (t :: ts) acc env g Φ := fun M σ H s Q k =>
  h M σ H s _ fun d g1 v H1 ⟨y, e, hl, q⟩ t1 c1 r1 => by
    subst e
    exact ⟨y, r1, hl, q M σ H1 (s.to t1 c1) Q fun z g' H' q t c => k z g' H' q (t1.trans t) c⟩
def tJoin (ts : List TE) : TE := fun σ H Q => tJs ts Str.empty σ H fun out H1 => Q (.str out) H1
theorem pe_join2 {X : Cx} {v1 v2 : Expr} {rest : List Expr} {ts : List TE} {pos : Pos} (h : PJ X (v1 :: v2 :: rest) ts) : PE X (.JoinedStr (v1 :: v2 :: rest) pos) (tJoin ts) := pe_joined h
theorem ye_join {ts : List TE} (h : YJ ts Str.empty env g fun z g1 => Ψ (.v (.str z)) g1) : YE (tJoin ts) env g Ψ := fun M σ H s Q k => h M σ H s _ fun z g' H' q t c => k _ g' _ H' q t c rfl
theorem ye_fmt (h : YE te env g fun d g1 => ∃ y, d = .v (.str y) ∧ y.length ≤ 1000000 ∧ Ψ (.v (.str y)) g1) : YE (tFmt te) env g Ψ := fun M σ H s Q k =>
  h M σ H s _ fun d g1 v H1 ⟨y, e, hl, q⟩ t1 c1 r1 => by
    subst e
    exact .inl ⟨y, r1, by rw [sizeLine_eq]; omega, k _ g1 _ H1 q t1 c1 rfl⟩
/-- stars -/
theorem ya_star {tr : TA} {Λ : List D → G → Prop} (h : YE te env g fun d g1 => ∃ xs, SV g1 d xs ∧ YA tr env g1 fun ds g2 => Λ (xs ++ ds) g2) : YA (StX.tStar K te tr) env g Λ := fun M σ H s Q k =>
  h M σ H s _ fun d g1 v H1 ⟨xs, sv, h1⟩ t1 c1 r1 => by
    obtain ⟨a, vs, e, h2, r2⟩ := sv.at K c1 r1
    exact ⟨a, vs, e, h2.symm, h1 M σ H1 (s.to t1 c1) _ fun ds g2 ws H2 q t2 c2 r3 => k _ g2 _ H2 q (t1.trans t2) c2 ((t2.reps c1.dom r2).append r3)⟩
/-- a def's locking of what it gives away -/
theorem ye_nofrz (h : YE te env g Ψ) : YE (tFrz te) env g Ψ := fun M σ H s Q k => h M σ H s _ fun d g1 v H1 q t1 c1 r1 => .inl (k d g1 v H1 q t1 c1 r1)
/-- the last cell, a dict, becomes immutable -/
theorem cok_drop {M : Addr → Prop} {g : G} {H : Hp} {a : Addr} {m : MO} {o' : HO} (c : Cok M (g ++ [(a, m)]) H) : Cok M g (upd H a o') ∧ Tr (g ++ [(a, m)]) H g (upd H a o') ∧ Leq (MM M (g ++ [(a, m)])) (MM M g) H (upd H a o') := by
  have nd := c.nd
  unfold ks at nd
  rw [List.map_append] at nd
  have na : a ∉ ks g := fun z => (List.nodup_append.mp nd).2.2 a z a (by simp) rfl
  have hin : a ∈ ks (g ++ [(a, m)]) := by simp [ks]
  have sub : ∀ b, b ∈ ks g → b ∈ ks (g ++ [(a, m)]) := fun b hb => by
    unfold ks at hb ⊢
    rw [List.map_append]
    exact List.mem_append_left _ hb
  have lq : Leq (MM M (g ++ [(a, m)])) (MM M g) H (upd H a o') := ⟨fun b o n e => by rw [upd_ne (by rintro rfl; exact n (.inr hin))]; exact e, fun b n _ z => n (z.elim .inl fun z => .inr (sub b z))⟩
  refine ⟨⟨fun b mb hb => ?_, (List.nodup_append.mp nd).1, fun b z => ?_, fun b h => c.dis b (sub b h)⟩, ⟨fun b o e n => by rw [upd_ne (by rintro rfl; exact n hin)]; exact e, fun b n => ?_, fun b z => .inl (sub b z)⟩, lq⟩
  · obtain ⟨o, h1, h2⟩ := c.cells b mb (List.mem_append_left _ hb)
    have ne : b ≠ a := by rintro rfl; exact na (List.mem_map.mpr ⟨_, hb, rfl⟩)
    exact ⟨o, by rw [upd_ne ne]; exact h1, h2.mono lq⟩
  · by_cases q : b = a
    · rw [q, upd_same]; simp
    · rw [upd_ne q]; exact c.dom b z
  · by_cases q : b = a
    · rw [q, upd_same]; simp
    · rw [upd_ne q]; exact n
theorem ye_frz (h : YE te env g fun d g1 => ∃ a g2 kk xs, d = .v (.ref a) ∧ g1 = g2 ++ [(a, .dic kk xs)] ∧ Ψ (.dic kk xs) g2) : YE (tFrz te) env g Ψ := fun M σ H s Q k =>
  h M σ H s _ fun d g1 v H1 ⟨a, g2, kk, xs, ed, eg, q⟩ t1 c1 r1 => by
    subst ed eg
    obtain ⟨o, h2, vs, eo, hl, r2⟩ := c1.cells a (.dic kk xs) (by simp)
    subst eo
    refine .inr ⟨a, _, h2, trivial, fun od => ?_⟩
    obtain ⟨c3, t3, lq⟩ := cok_drop (o' := .frz od (.dK (kk.zip vs))) c1
    have na : ¬ MM M g2 a := fun z => by
      have nd := c1.nd
      unfold ks at nd
      rw [List.map_append] at nd
      rcases z with z | z
      · exact c1.dis a (by simp [ks]) z
      · exact (List.nodup_append.mp nd).2.2 a z a (by simp) rfl
    exact k _ g2 _ _ q (t1.trans t3) c3 ⟨a, od, vs, r1, na, upd_same, hl, r2.mono lq⟩
end
end Dl
set_option Elab.async false
set_option linter.all false
set_option maxRecDepth 100000
set_option maxHeartbeats 2000000
set_option autoImplicit false
namespace Dl
open PySem PySem.Spec PyProof.Rows L2
abbrev dS (s : Str) : D := .v (.str s)
abbrev dI (i : Int) : D := .v (.int i)
abbrev dB (b : Bool) : D := .v (.bl b)
abbrev dN : D := .v .non
/-! ### the joined operators -/
section
variable {K : PySem.W.Frag} {g : G} {Ψ : D → G → Prop}
theorem dec_strs (a b : Str) : decide (V.str a = V.str b) = decide (a = b) := by
  by_cases h : a = b
  · subst h; simp
  · have : ¬ V.str a = V.str b := fun e => h (V.str.inj e)
    simp [h]
theorem dec_ints (a b : Int) : decide (V.int a = V.int b) = decide (a = b) := by
  by_cases h : a = b
  · subst h; simp
  · have : ¬ V.int a = V.int b := fun e => h (V.int.inj e)
    simp [h]
theorem dec_bls (a b : Bool) : decide (V.bl a = V.bl b) = decide (a = b) := by cases a <;> cases b <;> rfl
theorem eqA_S {a b : Str} (q : Ψ (dB (decide (a = b))) g) : RD (rEqA K) (dS a) (dS b) g Ψ := rd_l (rd_eq rfl (by rw [dec_strs]; exact q))
theorem neA_S {a b : Str} (q : Ψ (dB (!decide (a = b))) g) : RD (rNeA K) (dS a) (dS b) g Ψ := rd_l (rd_ne rfl (by rw [dec_strs]; exact q))
theorem eqA_I {a b : Int} (q : Ψ (dB (decide (a = b))) g) : RD (rEqA K) (dI a) (dI b) g Ψ := rd_l (rd_eq rfl (by rw [dec_ints]; exact q))
theorem neA_I {a b : Int} (q : Ψ (dB (!decide (a = b))) g) : RD (rNeA K) (dI a) (dI b) g Ψ := rd_l (rd_ne rfl (by rw [dec_ints]; exact q))
theorem eqA_B {a b : Bool} (q : Ψ (dB (decide (a = b))) g) : RD (rEqA K) (dB a) (dB b) g Ψ := rd_l (rd_eq rfl (by rw [dec_bls]; exact q))
theorem neA_B {a b : Bool} (q : Ψ (dB (!decide (a = b))) g) : RD (rNeA K) (dB a) (dB b) g Ψ := rd_l (rd_ne rfl (by rw [dec_bls]; exact q))
theorem inA_L {neg : Bool} {s : Str} {ss : List Str} {d : D} {zs : List D} (l : SV g d zs) (e : zs = ss.map dS) (q : Ψ (dB (if neg then !decide (s ∈ ss) else decide (s ∈ ss))) g) : RD (rInA K neg) (dS s) d g Ψ := rd_l (rd_inS l e q)
theorem inA_S {neg : Bool} {c : Nat} {z : Str} (q : Ψ (dB (if neg then !decide (c ∈ z.cps.toList) else decide (c ∈ z.cps.toList))) g) : RD (rInA K neg) (dS ⟨#[c]⟩) (dS z) g Ψ :=
  rd_r (rd_r (rd_flat (fun H Q h => ⟨c, z, rfl, rfl, h⟩) q))
theorem addA_I {a b : Int} (q : Ψ (dI (a + b)) g) : RD rAddA (dI a) (dI b) g Ψ := rd_l (rd_I0 q)
theorem addA_S {a b : Str} (hl : a.length + b.length ≤ 1000000) (q : Ψ (dS (a ++ b)) g) : RD rAddA (dS a) (dS b) g Ψ := rd_r (rd_l (rd_catS (by rw [sizeLine_eq]; omega) q))
theorem addA_L {x y : D} {xs ys : List D} (lx : LV g x xs) (ly : LV g y ys) (hl : xs.length + ys.length ≤ 1000000) (q : Ψ (.lst (xs ++ ys)) g) : RD rAddA x y g Ψ := rd_r (rd_r (rd_cat lx ly hl q))
theorem ixA_L {x : D} {xs : List D} {i : Int} {d : D} (l : SV g x xs) (e : atI xs i = some d) (q : Ψ d g) : RD (rIxA K) x (dI i) g Ψ := rd_l (rd_ix l e q)
/-! dicts -/
def dlk {κ : Type} [DecidableEq κ] : List κ → List D → κ → Option D
  | k' :: ks, x :: xs, k => if k' = k then some x else dlk ks xs k
  | _, _, _ => none
theorem dlk_ok {κ : Type} [DecidableEq κ] {M : Addr → Prop} {H : Hp} : ∀ {ks : List κ} {xs : List D} {vs : List V} {k : κ}, Reps M H xs vs → ks.length = xs.length → (match dlk ks xs k with
    | some d => ∃ v, valV (ks.zip vs) k = some v ∧ Rep M H d v
    | none => valV (ks.zip vs) k = none)
  | [], xs, vs, k, _, _ => by simp [dlk, valV]
  | _ :: _, [], vs, k, _, h => by simp at h
  | k' :: ks, x :: xs, vs, k, r, h => by
    obtain ⟨u, us, e, r1, r2⟩ := r
    subst e
    unfold dlk
    by_cases hk : k' = k
    · rw [if_pos hk]
      exact ⟨u, by rw [List.zip_cons_cons, valV_pos hk], r1⟩
    · rw [if_neg hk, List.zip_cons_cons]
      have := dlk_ok (k := k) r2 (by simpa using h)
      split at this
      · obtain ⟨v, h1, h2⟩ := this
        exact ⟨v, by rw [valV_neg hk]; exact h1, h2⟩
      · rw [valV_neg hk]; exact this
def kin {κ : Type} [DecidableEq κ] (k : κ) (ks : List κ) : Bool := ks.any fun k' => decide (k' = k)
inductive DV (g : G) : D → List Key → List D → Prop
  | im (ks : List Key) (xs : List D) : DV g (.dic ks xs) ks xs
  | mu (a : Addr) (ks : List Key) (xs : List D) (h : (a, MO.dic ks xs) ∈ g) : DV g (.v (.ref a)) ks xs
theorem DV.at {M : Addr → Prop} {H : Hp} {d : D} {u : V} {ks : List Key} {xs : List D} (c : Cok M g H) (r : Rep (MM M g) H d u) (l : DV g d ks xs) : ∃ a vs, u = .ref a ∧ Rd H a (.dK (ks.zip vs)) ∧ ks.length = xs.length ∧ Reps (MM M g) H xs vs := by
  cases l with
  | im => obtain ⟨a, o, vs, e, n, h, hl, q⟩ := r; exact ⟨a, vs, e, .inr ⟨o, h⟩, hl, q⟩
  | mu a _ _ h =>
    obtain ⟨o, h1, vs, e, hl, q⟩ := c.cells a _ h
    subst e
    exact ⟨a, vs, r, .inl h1, hl, q⟩
theorem dlk_isSome {κ : Type} [DecidableEq κ] : ∀ {ks : List κ} {xs : List D} {k : κ}, ks.length = xs.length → (dlk ks xs k).isSome = kin k ks
  | [], xs, k, _ => by simp [dlk, kin]
  | _ :: _, [], k, h => by simp at h
  | k' :: ks, x :: xs, k, h => by
    unfold dlk
    by_cases hk : k' = k
    · subst hk; simp [kin]
    · rw [if_neg hk, dlk_isSome (by simpa using h)]
      simp [kin, hk]
theorem kV_eq (k : Key) : V.str = fun s => kV (.inr s) := rfl
theorem din_core {neg : Bool} {k : Key} {d : D} {ks : List Key} {xs : List D} (l : DV g d ks xs) (q : Ψ (dB (if neg then !kin k ks else kin k ks)) g) : RD (rDIn neg) (.v (kV k)) d g Ψ := fun M H c u w ru rw Q kk => by
  obtain ⟨a, vs, e, h, hl, r⟩ := l.at c rw
  have hu : u = kV k := ru
  refine ⟨a, valV (ks.zip vs) k, e, .inl ⟨_, k, h, hu, rfl⟩, ?_⟩
  have e2 : (valV (ks.zip vs) k).isSome = kin k ks := by
    rw [← dlk_isSome (k := k) hl]
    have := dlk_ok (k := k) r hl
    split at this
    · rename_i d' e3
      obtain ⟨v, h1, _⟩ := this
      rw [h1, e3]; rfl
    · rename_i e3
      rw [this, e3]; rfl
  rw [e2]
  exact kk _ g _ H q .refl c rfl
theorem inA_D {neg : Bool} {s : Str} {d : D} {ks : List Key} {xs : List D} (l : DV g d ks xs) (q : Ψ (dB (if neg then !kin (Sum.inr s) ks else kin (Sum.inr s) ks)) g) : RD (rInA K neg) (dS s) d g Ψ := rd_r (rd_l (din_core (k := .inr s) l q))
theorem ixA_D {s : Str} {d : D} {ks : List Key} {xs : List D} {x : D} (l : DV g d ks xs) (e : dlk ks xs (Sum.inr s) = some x) (q : Ψ x g) : RD (rIxA K) d (dS s) g Ψ := rd_r fun M H c u w ru rw Q kk => by
  obtain ⟨a, vs, e1, h, hl, r⟩ := l.at c ru
  have := dlk_ok (k := Sum.inr s) r hl
  rw [e] at this
  obtain ⟨v, h1, h2⟩ := this
  exact ⟨a, v, e1, .inl ⟨_, .inr s, h, rw, h1.symm⟩, kk _ g _ H q .refl c h2⟩
/-! d[k] = v -/
def dput {κ : Type} [DecidableEq κ] : List κ → List D → κ → D → List κ × List D
  | k' :: ks, x :: xs, k, d => if k' = k then (k' :: ks, d :: xs) else let r := dput ks xs k d; (k' :: r.1, x :: r.2)
  | _, _, k, d => ([k], [d])
/-! isinstance, str -/
theorem rc_isi {x : V} {T : String} {b : Bool} {t : String} (hx : ∀ H, TyX K H x (.type t)) (hb : kitB t T = some b) (q : Ψ (dB b) g) : RC (rIsi K) [.v x, .v (.ty T)] g Ψ := fun M H c us ru Q k => by
  obtain ⟨u, w, e, r1, r2⟩ := reps2 ru
  rw [e, show u = x from r1, show w = .ty T from r2]
  exact ⟨x, .ty T, .type t, .type T, b, rfl, .ty T, hx H, kit_ty hb, k _ g _ H q .refl c rfl⟩
theorem isi_SS {s : Str} (q : Ψ (dB true) g) : RC (rIsi K) [dS s, .v (.ty "str")] g Ψ := rc_isi (t := "str") (fun H => .base (.str s)) (by decide +kernel) q
def rStrS : List V → Hp → VK → Prop := fun xs H Q => ∃ a, xs = [.str a] ∧ Q (.str a) H
theorem rc_strS {s : Str} (q : Ψ (dS s) g) : RC rStrS [dS s] g Ψ := rc_flat1 (fun H Q h => ⟨s, rfl, h⟩) q
theorem chain_I {ta tb tc : TE} {env : DEnv} {f1 f2 : Int → Int → V} (h : YE ta env g fun x g1 => YE tb env g1 fun y g2 => ∃ i j b, x = dI i ∧ y = dI j ∧ f1 i j = .bl b ∧ if b = true then YE tc env g2 fun z g3 => ∃ l, z = dI l ∧ Ψ (.v (f2 j l)) g3 else Ψ (dB false) g2) : YE (tChain (rI0 f1) (rI0 f2) ta tb tc) env g Ψ := by
  intro M σ H s Q k
  refine h M σ H s _ fun x g1 u H1 h1 t1 c1 r1 => ?_
  refine h1 M σ H1 (s.to t1 c1) _ fun y g2 w H2 hh t2 c2 r2 => ?_
  obtain ⟨i, j, b, e1, e2, e3, h2⟩ := hh
  subst e1 e2
  refine ⟨i, j, r1, r2, ?_⟩
  rw [e3]
  refine ⟨b, rfl, ?_⟩
  cases b with
  | true =>
    refine (show YE tc env g2 _ from h2) M σ H2 ((s.to t1 c1).to t2 c2) _ fun z g3 v H3 hz t3 c3 r3 => ?_
    obtain ⟨l, e, q⟩ := hz
    subst e
    exact ⟨j, l, r2, r3, k _ g3 _ H3 q ((t1.trans t2).trans t3) c3 rfl⟩
  | false => exact k _ g2 _ H2 h2 (t1.trans t2) c2 rfl
/-- comprehensions whose element and test are functions of the walked data, no cell changed -/
theorem lc_fn {α : Type} {env : DEnv} {wi : TI} {gt : TG} {tt : TT} {te : TE} {vs : List Nat} (p : α → Bool) (f : α → D)
    (h : YI wi env g fun xs kc g1 => (∀ c ∈ kc, c ∈ g1) ∧ ∃ (ys : List α) (r : α → D), xs = ys.map r ∧ ys.length < 1000000 ∧ (∀ y ∈ ys, WGc vs gt (r y) (wipeD env vs) g1 fun e2 g2 => YT tt e2 g2 fun b g3 => b = p y ∧ (b = true → YE te e2 g3 fun d g4 => g4 = g1 ∧ d = f y) ∧ (b = false → g3 = g1)) ∧ Ψ (.lst ((ys.filter p).map f)) g1) :
    YE (tLc wi gt tt te vs) env g Ψ := ye_lc fun M σ H s R k => h M σ H s R fun xs kc g1 J H1 ⟨hk, ys, r, e, hl, ht, q⟩ t1 c1 go => k xs kc g1 J H1 (by
  subst e
  refine ⟨fun i acc gg => gg = g1 ∧ acc = ((ys.take i).filter p).map f, ⟨rfl, rfl⟩, fun i acc gg ⟨e, _⟩ => by rw [e]; exact hk, ?_, fun acc gg ⟨e1, e2⟩ => ?_⟩
  · rintro i d acc gg hd ⟨rfl, rfl⟩
    rw [List.getElem?_map] at hd
    cases hy : ys[i]? with
    | none => rw [hy] at hd; cases hd
    | some y =>
      rw [hy] at hd
      cases hd
      have hi := (List.getElem?_eq_some_iff.mp hy).1
      have tk : ys.take (i + 1) = ys.take i ++ [y] := by
        rw [List.take_succ, hy]; rfl
      refine fun M σ H s v r Q k => ht y (List.mem_of_getElem? hy) M σ H s v r Q fun e2 g2 σ2 H2 q2 w t s2 => k e2 g2 σ2 H2 (q2.mono fun b g3 ⟨eb, h1, h2⟩ => ?_) w t s2
      cases b with
      | true =>
        refine (h1 rfl).mono fun d g4 ⟨e4, ed⟩ => ⟨?_, e4, ?_⟩
        · rw [List.length_map]
          exact Nat.lt_of_le_of_lt (Nat.le_trans (List.length_filter_le _ _) (List.length_take_le _ _)) (Nat.lt_trans hi hl)
        · rw [tk, List.filter_append, List.map_append, List.filter_cons, if_pos eb.symm, ed]; rfl
      | false =>
        refine ⟨h2 rfl, ?_⟩
        rw [tk, List.filter_append, List.map_append, List.filter_cons, if_neg (by rw [← eb]; simp)]
        simp
  · subst e1 e2
    rw [List.length_map, List.take_length]
    exact q) t1 c1 go
/-! names for the readings of built-ins -/
theorem call_lenA {X : Cx} : CallR X (.builtin "len") (rLenA X.K) := call_len
theorem call_listA {X : Cx} : CallR X (.type "list") (rListA X.K) := call_list_of
theorem call_strA {X : Cx} : CallR X (.type "str") rStrS := SkE.call_str_str
def rJoin (K : PySem.W.Frag) : V → List V → Hp → VK → Prop := fun x xs H Q => ∃ a p, ∃ ys : List Str, x = .str a ∧ xs = [.ref p] ∧ (SqL K H p (ys.map V.str) ∨ SqT K H p (ys.map V.str)) ∧ (ys.map (·.length)).sum + ys.length * a.length ≤ 16777216 ∧ Q (.str (Txt.join a ys)) H
theorem pe_joinA {X : Cx} {o e : Expr} {to te : TE} {apos pos : Pos} (ho : PE X o to) (he : PE X e te) (hs : starEach [e] X.env = [(false, eval e X.env)] := by rfl) (hbase : attributeBase o "join" X.env (eval o X.env) = eval o X.env := by rfl) (hline : (apos.endLine == pos.line) = true := by rfl) :
    PE X (.Call (.Attribute o "join" apos) [e] [] pos) (tM1 (rJoin X.K) to te) := pe_join ho he hs hbase hline
def rSplit : V → List V → Hp → VK → Prop := fun x xs H Q => ∃ a b, x = .str a ∧ xs = [.str b] ∧ (b.length == 0) = false ∧ a.length + 2 ≤ sizeLine ∧ rNewStrs (Txt.split a b) H Q
theorem pe_splitA {X : Cx} {o e : Expr} {to te : TE} {apos pos : Pos} (ho : PE X o to) (he : PE X e te) (hs : starEach [e] X.env = [(false, eval e X.env)] := by rfl) (hbase : attributeBase o "split" X.env (eval o X.env) = eval o X.env := by rfl) (hline : (apos.endLine == pos.line) = true := by rfl) :
    PE X (.Call (.Attribute o "split" apos) [e] [] pos) (tM1 rSplit to te) := pe_split ho he hs hbase hline
theorem ye_m1 {env : DEnv} {to te : TE} {r : V → List V → Hp → VK → Prop} (h : YE to env g fun x g1 => ∃ a, x = dS a ∧ YE te env g1 fun y g2 => RM r x [y] g2 Ψ) : YE (tM1 r to te) env g Ψ := by
  intro M σ H s Q k
  refine h M σ H s _ fun x g1 u H1 ⟨a, e, h1⟩ t1 c1 r1 => ?_
  subst e
  refine ⟨⟨a, r1⟩, h1 M σ H1 (s.to t1 c1) _ fun y g2 w H2 h2 t2 c2 r2 => ?_⟩
  exact h2 M H2 c2 u [w] (t2.rep c1.dom r1) (.one r2) Q fun d g' v H' q t c r => k d g' v H' q ((t1.trans t2).trans t) c r
theorem strs_of {M : Addr → Prop} {H : Hp} {ss : List Str} {vs : List V} (r : Reps M H (ss.map dS) vs) : vs = ss.map V.str := by
  have : Reps M H ((ss.map V.str).map D.v) vs := by rw [List.map_map]; exact r
  exact this.flat
theorem strsI {M : Addr → Prop} {H : Hp} {ss : List Str} : Reps M H (ss.map dS) (ss.map V.str) := by
  have : Reps M H ((ss.map V.str).map D.v) (ss.map V.str) := Reps.flatI
  rw [List.map_map] at this; exact this
theorem rm_join {a : Str} {d : D} {ss : List Str} {zs : List D} (l : SV g d zs) (e : zs = ss.map dS) (hz : (ss.map (·.length)).sum + ss.length * a.length ≤ 16777216) (q : Ψ (dS (Txt.join a ss)) g) : RM (rJoin K) (dS a) [d] g Ψ := fun M H c u us ru rs Q k => by
  obtain ⟨w, e0, r1⟩ := reps1 rs
  obtain ⟨p, vs, e1, h1, r2⟩ := l.at K c r1
  subst e e1
  have := strs_of r2
  subst this
  exact ⟨a, p, ss, ru, e0, h1, hz, k _ g _ H q .refl c rfl⟩
theorem rm_split {a b : Str} (hb : (b.length == 0) = false) (ha : a.length ≤ 1000000) (q : Ψ (.lst ((Txt.split a b).map dS)) g) : RM rSplit (dS a) [dS b] g Ψ := fun M H c u us ru rs Q k => by
  obtain ⟨w, e0, r1⟩ := reps1 rs
  rw [show w = .str b from r1] at e0
  exact ⟨a, b, ru, e0, hb, by rw [sizeLine_eq]; omega, fun p hp => k _ g _ _ q (.new hp) (c.grow (ex_new hp)) ⟨p, _, rfl, new_rep c hp, upd_same, strsI⟩⟩
theorem rc_sortedS {d : D} {ss : List Str} {zs : List D} (l : LV g d zs) (e : zs = ss.map dS) (hl : ss.length < 64) (q : ∀ ys, ys.Perm ss → sortedS ys = true → Ψ (.lst (ys.map dS)) g) : RC (rSortedS K) [d] g Ψ := fun M H c us ru Q k => by
  obtain ⟨u, e0, r1⟩ := reps1 ru
  obtain ⟨a, vs, e1, h1, r2⟩ := l.at c r1
  subst e1 e
  have := strs_of r2
  subst this
  exact ⟨a, ss, e0, .of h1, hl, fun ys p hp hs hn => k _ g _ _ (q ys hp hs) (.new hn) (c.grow (ex_new hn)) ⟨p, _, rfl, new_rep c hn, upd_same, strsI⟩⟩
/-! d[k] = v upon a cell -/
theorem dput_ok {κ : Type} [DecidableEq κ] {M : Addr → Prop} {H : Hp} : ∀ {ks : List κ} {xs : List D} {vs : List V} {k : κ} {d : D} {v : V}, Reps M H xs vs → Rep M H d v → ks.length = xs.length → ks.Nodup →
    ∃ ws, putK (ks.zip vs) k v = (dput ks xs k d).1.zip ws ∧ (dput ks xs k d).1.length = (dput ks xs k d).2.length ∧ Reps M H (dput ks xs k d).2 ws
  | [], xs, vs, k, d, v, r, rv, h, _ => by
    have : xs = [] := by cases xs with
      | nil => rfl
      | cons _ _ => simp at h
    subst this
    exact ⟨[v], by simp [dput, putK], rfl, .one rv⟩
  | k' :: ks, [], vs, k, d, v, r, rv, h, _ => by simp at h
  | k' :: ks, x :: xs, vs, k, d, v, r, rv, h, nd => by
    obtain ⟨u, us, e, r1, r2⟩ := r
    subst e
    unfold dput
    by_cases hk : k' = k
    · subst hk
      rw [if_pos rfl]
      refine ⟨v :: us, ?_, by simpa using h, .cons rv r2⟩
      unfold putK
      rw [if_pos (by simp), List.zip_cons_cons, List.map_cons, if_pos rfl, List.zip_cons_cons]
      congr 1
      have hn : ∀ p ∈ ks.zip us, ¬ p.1 = k' := fun p hp e => by
        have := (List.of_mem_zip hp).1
        rw [e] at this
        exact (List.nodup_cons.mp nd).1 this
      exact (List.map_congr_left fun p hp => if_neg (hn p hp)).trans (List.map_id' _)
    · rw [if_neg hk]
      obtain ⟨ws, h1, h2, h3⟩ := dput_ok (k := k) r2 rv (by simpa using h) (List.nodup_cons.mp nd).2
      refine ⟨u :: ws, ?_, by simpa using h2, .cons r1 h3⟩
      show putK ((k', u) :: ks.zip us) k v = (k', u) :: (dput ks xs k d).1.zip ws
      rw [← h1]
      unfold putK
      rw [List.any_cons, show decide ((k', u).1 = k) = false from by simp [hk], Bool.false_or]
      by_cases hc : ((ks.zip us).any fun kv => decide (kv.1 = k)) = true
      · rw [if_pos hc, if_pos hc, List.map_cons, if_neg hk]
      · rw [if_neg hc, if_neg hc]; rfl
theorem ws_dput {env : DEnv} {td ty tv : TE} {E : DE} (h : YE tv env g fun d g1 => YE td env g1 fun x g2 => YE ty env g2 fun y g3 => ∃ a ks xs k, x = .v (.ref a) ∧ y = .v (kV k) ∧ (a, MO.dic ks xs) ∈ g3 ∧ ks.Nodup ∧ ks.length < 1000000 ∧
    E.nx env (setG g3 a (.dic (dput ks xs k d).1 (dput ks xs k d).2))) : WS (sDPut td ty tv) env g E := by
  intro M σ H s Z f
  refine h M σ H s _ fun d g1 v H1 h1 t1 c1 r1 => ?_
  refine h1 M σ H1 (s.to t1 c1) _ fun x g2 u H2 h2 t2 c2 r2 => ?_
  refine h2 M σ H2 ((s.to t1 c1).to t2 c2) _ fun y g3 w H3 h3 t3 c3 r3 => ?_
  obtain ⟨a, kk, xs, k, ex, ey, hm, nd, hl, q⟩ := h3
  subst ex ey
  obtain ⟨o, h4, vs, e4, hl4, r4⟩ := c3.cells a _ hm
  subst e4
  have rv : Rep (MM M g3) H3 d v := (t2.trans t3).rep c1.dom r1
  obtain ⟨ws, h5, h6, h7⟩ := dput_ok (k := k) r4 rv hl4 nd
  obtain ⟨c5, t5⟩ := cok_set (m' := .dic (dput kk xs k d).1 (dput kk xs k d).2) c3 hm ⟨ws, rfl, h6, h7⟩
  have t : Tr g H g3 H3 := (t1.trans t2).trans t3
  refine ⟨a, _, r2, .inl ⟨_, k, h4, r3, by rw [zip_len (by rw [r4.length]; exact hl4), sizeLine_eq]; omega, rfl⟩, ?_⟩
  rw [h5]
  exact f.nx _ _ σ _ q (t.trans t5) ((s.to t c3).to t5 c5)
end
end Dl
set_option Elab.async false
set_option linter.all false
set_option maxRecDepth 100000
set_option maxHeartbeats 2000000
set_option autoImplicit false
namespace Dl
open PySem PySem.Spec PyProof.Rows L2
/-! ### the rules with the written part named -/
section
variable {X : Cx} {K : PySem.W.Frag} {e o : Expr} {es : List Expr} {te ta to : TE} {t : TA} {tg : Expr}
theorem k_in (hK : X.K = K) (hu : X.A.units + 1 < cLine) : OpR X (compareOp .In) (rInA K false) := hK ▸ op_inA hu
theorem k_nin (hK : X.K = K) (hu : X.A.units + 1 < cLine) : OpR X (compareOp .NotIn) (rInA K true) := hK ▸ op_ninA hu
theorem k_eq (hK : X.K = K) (hu : X.A.units + 64 < cLine) : OpR X (compareOp .Eq) (rEqA K) := hK ▸ op_eqA hu
theorem k_ne (hK : X.K = K) (hu : X.A.units + 64 < cLine) : OpR X (compareOp .NotEq) (rNeA K) := hK ▸ op_neA hu
theorem k_ix (hK : X.K = K) (hu : X.A.units + 1 < cLine) : IxR X (rIxA K) := hK ▸ ix_any hu
theorem k_sl (hK : X.K = K) : SlR X (rSlA K) := hK ▸ sl_any
theorem k_any (hK : X.K = K) (h : PE X e te) : PI X tg e (iAny K te) := hK ▸ pi_any h
theorem k_len (hK : X.K = K) : CallR X (.builtin "len") (rLenA K) := hK ▸ call_lenA
theorem k_list (hK : X.K = K) : CallR X (.type "list") (rListA K) := hK ▸ call_listA
theorem k_all (hK : X.K = K) (hc : X.calm = true) : CallR X (.builtin "all") (rAll K) := hK ▸ cr_all hc
theorem k_anyb (hK : X.K = K) (hc : X.calm = true) : CallR X (.builtin "any") (rAny K) := hK ▸ cr_any hc
theorem k_sortedS (hK : X.K = K) : CallR X (.builtin "sorted") (rSortedS K) := hK ▸ cr_sortedS
theorem k_isi (hK : X.K = K) : CallR X (.builtin "isinstance") (rIsi K) := hK ▸ call_isi
theorem k_isiT (hK : X.K = K) : CallR X (.builtin "isinstance") (rIsiT K) := hK ▸ call_isiT
theorem k_fld {f : Str} {pos : Pos} (hK : X.K = K) (h : PE X e ta) (hb : attributeBase e f X.env (eval e X.env) = eval e X.env := by rfl) : PE X (.Attribute e f pos) (tFld K ta f) := hK ▸ pe_fld h hb
theorem k_sfld {f : Str} {value : Expr} {pos pos' : Pos} {tv : TE} (hK : X.K = K) (ha : PE X o ta) (hv : PE X value tv) (hs : swapsWith value (some (.Attribute o f pos')) pos.line X.env = pure false := by rfl) : PS X (.Assign [.Attribute o f pos'] value pos) (sFld K ta tv f) := hK ▸ ps_fld ha hv hs
theorem k_star {p : Pos} (hK : X.K = K) (he : PE X e te) (hr : PA X es t) (hs : starEach (.Starred e p :: es) X.env = (true, eval e X.env) :: starEach es X.env := by rfl) : PA X (.Starred e p :: es) (StX.tStar K te t) := hK ▸ StX.pa_star he hr hs
theorem k_tup {k n : Nat} {pos : Pos} {tt : TGs} (hK : X.K = K) (hc : X.calm = true) (h : PGs X es tt) (hn : (assignEach es X.env).length = n := by rfl) (hst : (assignEach es X.env).findIdx? (·.1) = none := by rfl) : PG X (.Tuple es k pos) (gTup K n tt) := hK ▸ pg_tup hc h hn hst
theorem k_bm {T : String} {name : Str} {id : String} {r : V → List V → Hp → VK → Prop} {apos cpos : Pos} (hK : X.K = K) (pa : PlainAttrs T) (slot : Slot T name id) (hty : typeOf (.builtin id) = pure (.type "method_descriptor")) (hm : MtR X id r) (ho : PE X o to) (ha : PA X (e :: es) t)
    (hbase : attributeBase o name X.env (eval o X.env) = eval o X.env := by rfl)
    (hfew : ((backTo cpos (starEach (e :: es) X.env)).all (fun x => !x.1) && (backToKw cpos (keywordEach [] X.env)).all (fun x => x.1.isSome)
      && decide ((e :: es).length + ([] : List Keyword).length + (if ([] : List Keyword).isEmpty then 0 else 1) < 30)) = true := by rfl)
    (hline : (apos.endLine == cpos.line) = true := by rfl) (hs : starEach (e :: es) X.env = (false, eval e X.env) :: starEach es X.env := by rfl) (hplain : (backTo cpos (starEach es X.env)).any (·.1) = false := by rfl) :
    PE X (.Call (.Attribute o name apos) (e :: es) [] cpos) (tBM K T r to t) := hK ▸ pe_bm pa slot hty hm ho ha hbase hfew hline hs hplain
theorem k_join {apos pos : Pos} (hK : X.K = K) (ho : PE X o to) (he : PE X e te) (hs : starEach [e] X.env = [(false, eval e X.env)] := by rfl) (hbase : attributeBase o "join" X.env (eval o X.env) = eval o X.env := by rfl) (hline : (apos.endLine == pos.line) = true := by rfl) :
    PE X (.Call (.Attribute o "join" apos) [e] [] pos) (tM1 (rJoin K) to te) := hK ▸ pe_joinA ho he hs hbase hline
theorem op_isNn : OpR X (compareOp .Is) rIsN := op_isN
theorem op_notNn : OpR X (compareOp .IsNot) rNotN := op_notN
theorem lc_map {α : Type} {g : G} {Ψ : D → G → Prop} {env : DEnv} {wi : TI} {gt : TG} {te : TE} {vs : List Nat} (f : α → D)
    (h : YI wi env g fun xs kc g1 => (∀ c ∈ kc, c ∈ g1) ∧ ∃ (ys : List α) (r : α → D), xs = ys.map r ∧ ys.length < 1000000 ∧ (∀ y ∈ ys, WGc vs gt (r y) (wipeD env vs) g1 fun e2 g2 => YE te e2 g2 fun d g4 => g4 = g1 ∧ d = f y) ∧ Ψ (.lst (ys.map f)) g1) :
    YE (tLc wi gt tYes te vs) env g Ψ := lc_fn (fun _ => true) f fun M σ H s R k => h M σ H s R fun xs kc g1 J H1 ⟨hk, ys, r, e, hl, ht, q⟩ t1 c1 go => k xs kc g1 J H1
      ⟨hk, ys, r, e, hl, fun y hy M σ H s v r Q k => ht y hy M σ H s v r Q fun e2 g2 σ2 H2 q w t s2 => k e2 g2 σ2 H2 (yt_yes ⟨rfl, fun _ => q, fun z => by cases z⟩) w t s2, by
        have : ys.filter (fun _ => true) = ys := by simp
        rw [this]; exact q⟩ t1 c1 go
end
end Dl
set_option Elab.async false
set_option linter.all false
set_option maxRecDepth 100000
set_option maxHeartbeats 2000000
set_option autoImplicit false
namespace Dl
open PySem PySem.Spec PyProof.Rows L2
theorem take_succ' {α : Type} {xs : List α} {i : Nat} {x : α} (h : xs[i]? = some x) : xs.take (i + 1) = xs.take i ++ [x] := by
  rw [List.take_succ, h]; rfl
theorem map_get {α β : Type} {f : α → β} {xs : List α} {i : Nat} {y : β} (h : (xs.map f)[i]? = some y) : ∃ x, xs[i]? = some x ∧ f x = y := by
  rw [List.getElem?_map] at h
  cases e : xs[i]? with
  | none => rw [e] at h; cases h
  | some x => rw [e] at h; exact ⟨x, rfl, Option.some.inj h⟩
theorem kin_iff {κ : Type} [DecidableEq κ] {k : κ} {ks : List κ} : kin k ks = true ↔ k ∈ ks := by
  unfold kin
  rw [List.any_eq_true]
  constructor
  · rintro ⟨x, h, e⟩
    rw [← of_decide_eq_true e]; exact h
  · intro h
    exact ⟨k, h, by simp⟩
theorem kin_not {κ : Type} [DecidableEq κ] {k : κ} {ks : List κ} (h : k ∉ ks) : kin k ks = false := by
  cases e : kin k ks with
  | false => rfl
  | true => exact absurd (kin_iff.mp e) h
theorem kin_strs {s : Str} {α : Type} {f : α → Str} {ns : List α} : kin (Sum.inr s : Key) (ns.map fun x => Sum.inr (f x)) = decide (s ∈ ns.map f) := by
  by_cases h : s ∈ ns.map f
  · rw [decide_eq_true h]
    obtain ⟨x, h1, h2⟩ := List.mem_map.mp h
    exact kin_iff.mpr (List.mem_map.mpr ⟨x, h1, by rw [h2]⟩)
  · rw [decide_eq_false h]
    refine kin_not fun z => h ?_
    obtain ⟨x, h1, h2⟩ := List.mem_map.mp z
    exact List.mem_map.mpr ⟨x, h1, Sum.inr.inj h2⟩
theorem dput_fresh {κ : Type} [DecidableEq κ] : ∀ {ks : List κ} {xs : List D} {k : κ} {d : D}, ks.length = xs.length → k ∉ ks → dput ks xs k d = (ks ++ [k], xs ++ [d])
  | [], [], k, d, _, _ => rfl
  | [], _ :: _, k, d, h, _ => by simp at h
  | _ :: _, [], k, d, h, _ => by simp at h
  | k' :: ks, x :: xs, k, d, h, n => by
    simp only [List.mem_cons, not_or] at n
    unfold dput
    rw [if_neg (Ne.symm n.1), dput_fresh (by simpa using h) n.2]
    rfl
theorem setG_one (a : Addr) (m m' : MO) : setG [(a, m)] a m' = [(a, m')] := by simp [setG]
theorem setG_skip {a b : Addr} {m m' : MO} {g : G} (h : a ≠ b) : setG ((a, m) :: g) b m' = (a, m) :: setG g b m' := by simp [setG, h]
theorem setG_hit {a : Addr} {m m' : MO} {g : G} (h : a ∉ ks g) : setG ((a, m) :: g) a m' = (a, m') :: g := by
  unfold setG
  rw [List.map_cons, if_pos rfl]
  congr 1
  have : ∀ p ∈ g, (if p.1 = a then (a, m') else p) = p := fun p hp => if_neg fun e => h (List.mem_map.mpr ⟨p, hp, e⟩)
  exact (List.map_congr_left this).trans (List.map_id' _)
end Dl
set_option Elab.async false
set_option linter.all false
set_option maxRecDepth 100000
set_option maxHeartbeats 2000000
set_option autoImplicit false
namespace Dl
open PySem PySem.Spec PyProof.Rows L2
/-! ### *d of a dict -/
section
variable {X : Cx} {pins : List (Addr × Obj)} {σ : L2.St} {H : Hp} {s : Shared}
theorem star_dict {a : Addr} {kvs : List (Key × V)} {E : Value → Shared → Prop} {Q : List Value → Shared → Prop} (hh : X.A.handled = none) (I : Inv X pins σ H s) (h : Rd H a (.dK kvs)) (hQ : ∀ us s', Inv X pins σ H s' → Vals (kvs.map fun kv => kV kv.1) us → Q us s') :
    PySem.W.StarOf (model X.prog X.w) X.A E (.ref a) Q s := by
  obtain ⟨z, hd, vs, rel, dd⟩ := dk_rd I.hok h
  obtain ⟨ep, hat⟩ := dd.dictAt
  have lk : kvs.length = vs.length := Paired.length rel
  have hT : s.TypeIs (.ref a) "dict" := dd.typeIs
  have fin : ∀ (acc : Array Value), ItemsOf (fun i v => ∃ k x, vs[i]? = some (k, x) ∧ (mixKind X.prog X.w).is k v = true) acc vs.length → Vals (kvs.map fun kv => kV kv.1) acc.toList := fun acc it => by
    have gen : ∀ (l : List (Key × V)) (m : List (Key × Value)) (n : Nat), KV l m → (∀ j p, m[j]? = some p → vs[n + j]? = some p) → n + m.length = vs.length → Vals (l.map fun kv => kV kv.1) (acc.toList.drop n) := by
      intro l
      induction l with
      | nil =>
        intro m n r hm hn
        cases r
        have : acc.toList.drop n = [] := List.drop_eq_nil_of_le (by rw [Array.length_toList, it.1]; simp at hn; omega)
        rw [this]; exact .nil
      | cons p l ih =>
        intro m n r hm hn
        cases r with
        | cons r1 r2 =>
          rename_i q m'
          have hq := hm 0 q rfl
          rw [Nat.add_zero] at hq
          have hlt : n < acc.toList.length := by rw [Array.length_toList, it.1]; simp at hn; omega
          have e1 : acc.toList.drop n = acc.toList[n] :: acc.toList.drop (n + 1) := by
            rw [List.drop_eq_getElem_cons hlt]
          obtain ⟨k, x, e2, e3⟩ := it.2 n (acc.toList[n]) (by rw [← Array.getElem?_toList]; simp [hlt])
          rw [hq] at e2
          cases e2
          rw [e1]
          refine .cons ?_ (ih m' (n + 1) r2 (fun j p hj => ?_) (by simp at hn; omega))
          · have rk : RelV (kV k) (acc.toList[n]) := relV_key (show keyIs k (acc.toList[n]) = true from e3)
            show RelV (kV p.1) _
            rw [show p.1 = k from r1.1]
            exact rk
          · have := hm (j + 1) p (by simpa using hj)
            rw [show n + 1 + j = n + (j + 1) from by omega]
            exact this
    have := gen kvs vs 0 rel (fun j p h => by rw [Nat.zero_add]; exact h) (by omega)
    simpa using this
  have zz : wpAny (model X.prog X.w) X.A (collect (.ref a)) Q E s := by
    have lt := hat.lt_size
    unfold collect
    refine wpAny_bind (wpAny_runValue ?_)
    generalize hR : (fun (r : Result) (s' : Shared) => (match r with
      | .ok (.ret v) => _
      | .ok _ => _
      | .error e => _ : Prop)) = R
    refine codeAny_builtin F.entry_proto_collect ?_
    rw [Around.under_plainId F.plain_proto_collect _]
    show wpAny _ X.A.in1 (newList [] >>= fun l => again (.builtin "list.__iadd__" ⟨[l, .ref a], []⟩)) _ _ s
    refine wpAny_bind (wpAny_newObj_type ?_)
    refine wpAny_pure ⟨plainId_quiet F.plain_list_iadd _, codeAny_builtin F.entry_list_iadd ?_⟩
    rw [Around.under_plainId F.plain_list_iadd _]
    show wpAny _ X.A.in1 (Builtin.List.listExtendWith (.ref s.heap.objs.size) (.ref a) (.ref s.heap.objs.size)) _ _ _
    have hne : s.heap.objs.size ≠ a := Nat.ne_of_gt lt
    refine PySem.W.kdl_extend (s := { s with heap := s.heap.push { cls := .type "list", data := .seq ([] : List Value).toArray } }) (A := X.A) (PySem.W.kdl_dict (knd := mixKind X.prog X.w) (kvs := vs) (ep := ep) hd) hh (hat.push _) _ hne hne _ _ (Heap.get?_push_size _ rfl) (fun h' tk acc' c' hk hS' hacc => ?_) (by omega)
    rw [← hR]
    show wpAny _ X.A (load s.heap.objs.size >>= _) _ _ _
    refine wpAny_bind (wpAny_load hS' (wpAny_pure (hQ _ _ (I.kept (t' := tk) fun b o e => hk b o (Nat.ne_of_lt (Heap.lt_size e)) (Heap.get?_push_of_some _ e)) (fin acc' hacc))))
  unfold PySem.W.StarOf notIterableAtAll
  exact wpAny_bind (wpAny_specialOf hT PySem.F.slot_dict_iter.lookup (wpAny_pure ⟨rfl, zz⟩))
def tStarA (K : PySem.W.Frag) (te : TE) (t : TA) : TA := fun σ H Q => te σ H fun x H1 => (∃ p xs, x = V.ref p ∧ (SqT K H1 p xs ∨ SqL K H1 p xs) ∧ t σ H1 fun ys H2 => Q (xs ++ ys) H2) ∨ ∃ p kvs, x = V.ref p ∧ Rd H1 p (.dK kvs) ∧ t σ H1 fun ys H2 => Q ((kvs.map fun kv => kV kv.1) ++ ys) H2
theorem k_starA {e : Expr} {es : List Expr} {te : TE} {t : TA} {p : Pos} {K : PySem.W.Frag} (hK : X.K = K) (hc : X.calm = true) (he : PE X e te) (hr : PA X es t) (hs : starEach (.Starred e p :: es) X.env = (true, eval e X.env) :: starEach es X.env := by rfl) : PA X (.Starred e p :: es) (tStarA K te t) := by
  subst hK
  refine ⟨fun pos pins s σ H Q I h => ?_⟩
  refine PySem.W.items_star (thn (he.run pins s σ H _ I h) fun v s1 ⟨y, H1, I1, ry, q⟩ => ?_) hs
  rcases q with ⟨a, xs, ey, hx, q⟩ | ⟨a, kvs, ey, hx, q⟩
  · subst ey
    obtain rfl : v = Value.ref a := ry
    refine StX.star_any I1 hx fun us s2 I2 rv => ?_
    exact thn (hr.run pos pins s2 σ H1 _ I2 q) fun ws s3 ⟨vs, H3, I3, r3, q3⟩ => ⟨xs ++ vs, H3, I3, rv.append r3, q3⟩
  · subst ey
    obtain rfl : v = Value.ref a := ry
    refine star_dict (I1.ok.hd hc) I1 hx fun us s2 I2 rv => ?_
    exact thn (hr.run pos pins s2 σ H1 _ I2 q) fun ws s3 ⟨vs, H3, I3, r3, q3⟩ => ⟨_, H3, I3, rv.append r3, q3⟩
end
/-- what a star spreads -/
inductive StV (g : G) : D → List D → Prop
  | sq (d : D) (xs : List D) (h : SV g d xs) : StV g d xs
  | dic (d : D) (ks : List Key) (xs : List D) (h : DV g d ks xs) : StV g d (ks.map fun k => .v (kV k))
theorem ya_starA {K : PySem.W.Frag} {env : DEnv} {g : G} {te : TE} {tr : TA} {Λ : List D → G → Prop} (h : YE te env g fun d g1 => ∃ xs, StV g1 d xs ∧ YA tr env g1 fun ds g2 => Λ (xs ++ ds) g2) : YA (tStarA K te tr) env g Λ := by
  intro M σ H s Q k
  refine h M σ H s _ fun d g1 v H1 hh t1 c1 r1 => ?_
  obtain ⟨xs, sv, h1⟩ := hh
  cases sv with
  | sq _ h3 =>
    obtain ⟨a, vs, e, h2, r2⟩ := h3.at K c1 r1
    exact .inl ⟨a, vs, e, h2.symm, h1 M σ H1 (s.to t1 c1) _ fun ds g2 ws H2 q t2 c2 r3 => k _ g2 _ H2 q (t1.trans t2) c2 ((t2.reps c1.dom r2).append r3)⟩
  | dic kk ys h3 =>
    obtain ⟨a, vs, e, h2, hl, r2⟩ := h3.at c1 r1
    refine .inr ⟨a, _, e, h2, h1 M σ H1 (s.to t1 c1) _ fun ds g2 ws H2 q t2 c2 r3 => k _ g2 _ H2 q (t1.trans t2) c2 (Reps.append ?_ r3)⟩
    have : ((kk.zip vs).map fun kv => kV kv.1) = kk.map kV := by
      have hz : kk.length ≤ vs.length := by rw [r2.length]; omega
      rw [show ((kk.zip vs).map fun kv => kV kv.1) = ((kk.zip vs).map (·.1)).map kV from by rw [List.map_map]; rfl, List.map_fst_zip hz]
    rw [this]
    have f : Reps (MM M g2) H2 ((kk.map kV).map D.v) (kk.map kV) := Reps.flatI
    rw [List.map_map] at f
    exact f
end Dl
set_option Elab.async false
set_option linter.all false
set_option maxRecDepth 100000
set_option maxHeartbeats 2000000
set_option autoImplicit false
namespace Dl
open PySem PySem.Spec PyProof.Rows L2
/-! ### dict comprehensions -/
theorem dc_it {J : It} {n : Nat} {G : Hp → Prop} {Y : Nat → Hp → V → Hp → Prop} (w : Walk J n G Y) {g : TG} {tt : TT} {tk tv : TE} {vs : List Nat} {σ : L2.St} {H1 : Hp} {D : Addr} {Qd : Hp → Prop} (Pv : Nat → Hp → Prop) (h0 : Pv 0 (upd H1 D (.dK []))) (hG : ∀ i H, i ≤ n → Pv i H → G H)
    (hs : ∀ i x H H', i < n → Pv i H → Y i H x H' → g x (L2.wipe σ vs) H' fun σ2 H2 => L2.wipe σ2 vs = L2.wipe σ vs ∧ tt σ2 H2 fun b H3 =>
      if b = true then tk σ2 H3 fun y H4 => tv σ2 H4 fun z H5 => ∃ kvs k, y = kV k ∧ H5 D = some (.dK kvs) ∧ kvs.length < sizeLine ∧ Pv (i + 1) (upd H5 D (.dK (putK kvs k z))) else Pv (i + 1) H3) (hd : ∀ H, Pv n H → Qd H) :
    ∃ W : Nat → Nat → Hp → Prop, (∃ m, W 0 m (upd H1 D (.dK []))) ∧ ∀ i m H, W i m H →
      (J.stop i H ∧ Qd H) ∨ (J.go i H ∧ ∃ Nx : Hp → Prop, (∀ H', Nx H' → ∃ m', m' < m ∧ W (i + 1) m' H') ∧ ∀ x H', J.yld i H x H' → g x (L2.wipe σ vs) H' fun σ2 H2 => L2.wipe σ2 vs = L2.wipe σ vs ∧ tt σ2 H2 fun b H3 =>
        if b = true then tk σ2 H3 fun y H4 => tv σ2 H4 fun z H5 => ∃ kvs k, y = kV k ∧ H5 D = some (.dK kvs) ∧ kvs.length < sizeLine ∧ Nx (upd H5 D (.dK (putK kvs k z))) else Nx H3) := by
  refine ⟨fun i m H => m = n - i ∧ i ≤ n ∧ Pv i H, ⟨n, by simp, Nat.zero_le _, h0⟩, ?_⟩
  rintro i m H ⟨rfl, hi, p⟩
  have q := hG i H hi p
  by_cases hlt : i < n
  · refine .inr ⟨w.goes i H hlt q, Pv (i + 1), fun H' p' => ⟨n - (i + 1), by omega, rfl, hlt, p'⟩, fun x H' y => hs i x H H' hlt p (w.yields i H x H' hlt q y)⟩
  · have e : i = n := by omega
    subst e
    exact .inl ⟨w.stops H q, hd H p⟩
section
variable {env : DEnv} {g : G} {Ψ : D → G → Prop} {wi : TI} {gt : TG} {tt : TT} {tk tv : TE} {vs : List Nat}
theorem ye_dc (h : YI wi env g fun xs kc g1 => ∃ Iv : Nat → List Key → List D → G → Prop, Iv 0 [] [] g1 ∧ (∀ i kk acc gg, Iv i kk acc gg → (∀ c ∈ kc, c ∈ gg) ∧ kk.Nodup ∧ kk.length = acc.length ∧ kk.length < 1000000) ∧
    (∀ (i : Nat) d kk acc gg, xs[i]? = some d → Iv i kk acc gg → WGc vs gt d (wipeD env vs) gg fun e2 g2 => YT tt e2 g2 fun b g3 => if b = true then YE tk e2 g3 fun y g4 => YE tv e2 g4 fun z g5 => ∃ k, y = .v (kV k) ∧ Iv (i + 1) (dput kk acc k z).1 (dput kk acc k z).2 g5 else Iv (i + 1) kk acc g3) ∧
    ∀ kk acc gg, Iv xs.length kk acc gg → ∀ a, a ∉ ks gg → Ψ (.v (.ref a)) (gg ++ [(a, .dic kk acc)])) : YE (tDc wi gt tt tk tv vs) env g Ψ := fun M σ H s Q k =>
  h M σ H s _ fun xs kc g1 J H1 ⟨Iv, i0, ik, it, ie⟩ t1 c1 go => by
    intro Dl hD
    obtain ⟨Gp, Y, w, gp, gy⟩ := go
    have s1 := s.to t1 c1
    have nM : ¬ M Dl := fun z => c1.dom Dl z hD
    have nG1 : Dl ∉ ks g1 := fun z => new_rep c1 hD (.inr z)
    have lq : ∀ {gg : G} {H' : Hp}, Tr g1 H1 gg H' → Leq (MM M g1) (MM (MD M Dl) gg) H1 H' := fun t => .of (fun a o n e => t.kp a o e fun z => n (.inr z)) fun a n e z => by
      rcases z with (z | z) | z
      · exact n (.inl z)
      · subst z; exact e hD
      · rcases t.nw a z with q | q
        · exact n (.inr q)
        · exact e q
    have sM : ∀ {gg : G} {H' : Hp}, Tr g1 H1 gg H' → Cok (MD M Dl) gg H' → Sok (MD M Dl) (wipeD env vs) gg (L2.wipe σ vs) H' := fun {gg H'} t c => by
      have sw := s1.wipe vs
      exact { c with len := sw.len, slots := fun i d e => let ⟨v, h1, h2⟩ := sw.slots i d e; ⟨v, h1, h2.mono (lq t)⟩ }
    refine dc_it w (fun i H' => ∃ kk acc gg us, Iv i kk acc gg ∧ Tr g1 H1 gg H' ∧ Dl ∉ ks gg ∧ Cok (MD M Dl) gg H' ∧ H' Dl = some (.dK (kk.zip us)) ∧ Reps (MM (MD M Dl) gg) H' acc us) ?_ (fun i H' _ ⟨kk, acc, gg, us, h1, h2, h3, h4, h5, h6⟩ => gp (MD M Dl) gg H' (lq h2) h4 (ik i kk acc gg h1).1) ?_ ?_
    · refine ⟨[], [], g1, [], i0, .new hD, nG1, ⟨fun a m hm => ?_, c1.nd, fun a z => ?_, fun a h z => z.elim (c1.dis a h) (by rintro rfl; exact nG1 h)⟩, upd_same, rfl⟩
      · obtain ⟨o, h1, h2⟩ := c1.cells a m hm
        exact ⟨o, ex_new hD a o h1, h2.mono (lq (.new hD))⟩
      · rcases z with z | z
        · rw [upd_ne (by rintro rfl; exact nM z)]; exact c1.dom a z
        · rw [z, upd_same]; simp
    · rintro i x H' H2 hi ⟨kk, acc, gg, us, h1, h2, h3, h4, h5, h6⟩ y
      have ex : xs[i]? = some (xs[i]'hi) := by simp [hi]
      obtain ⟨hk1, hk2, hk3, hk4⟩ := ik i kk acc gg h1
      obtain ⟨y1, y2⟩ := gy i (MD M Dl) H' x H2 gg _ (lq h2) h4 hk1 ex y
      have t2 : Tr g1 H1 gg H2 := h2.trans (.ex y1)
      refine it i _ kk acc gg ex h1 (MD M Dl) (L2.wipe σ vs) H2 (sM t2 (h4.grow y1)) x y2 _ fun e2 g2 σ2 H3 q2 w2 t3 s3 => ⟨w2.trans (wipe_wipe σ vs), ?_⟩
      refine q2 (MD M Dl) σ2 H3 s3 _ fun b g3 H4 q3 t4 c4 => ?_
      have t34 : Tr gg H2 g3 H4 := t3.trans t4
      have hD2 : H2 Dl = some (.dK (kk.zip us)) := y1 Dl _ h5
      have hD4 : H4 Dl = some (.dK (kk.zip us)) := t34.kp Dl _ hD2 h3
      have n3 : Dl ∉ ks g3 := fun z => by
        rcases t34.nw Dl z with q | q
        · exact h3 q
        · rw [hD2] at q; cases q
      have r4 : Reps (MM (MD M Dl) g3) H4 acc us := ((h6.mono ((Tr.ex (g := gg) y1).leq h4.dom))).mono (t34.leq (h4.grow y1).dom)
      cases b with
      | true =>
        refine (show YE tk e2 g3 _ from q3) (MD M Dl) σ2 H4 (s3.to t4 c4) _ fun d4 g4 v4 H41 q4 t41 c41 r41 => ?_
        refine q4 (MD M Dl) σ2 H41 ((s3.to t4 c4).to t41 c41) _ fun d g5 v H5 hq5 t45 c5 r5 => ?_
        obtain ⟨k, ek, q5⟩ := hq5
        subst ek
        have t5 : Tr g3 H4 g5 H5 := t41.trans t45
        have hD5 : H5 Dl = some (.dK (kk.zip us)) := t5.kp Dl _ hD4 n3
        have n5 : Dl ∉ ks g5 := fun z => by
          rcases t5.nw Dl z with q | q
          · exact n3 q
          · rw [hD4] at q; cases q
        have r5' : Reps (MM (MD M Dl) g5) H5 acc us := r4.mono (t5.leq c4.dom)
        obtain ⟨ws, p1, p2, p3⟩ := dput_ok (k := k) r5' r5 hk3 hk2
        have lD : Leq (MM (MD M Dl) g5) (MM (MD M Dl) g5) H5 (upd H5 Dl (.dK (putK (kk.zip us) k v))) := ⟨fun a o n e => by rw [upd_ne (fun z => n (.inl (.inr z)))]; exact e, fun a n _ => n⟩
        refine ⟨kk.zip us, k, r41, hD5, by rw [zip_len (by rw [r5'.length]; exact hk3), sizeLine_eq]; omega, (dput kk acc k d).1, (dput kk acc k d).2, g5, ws, q5, ?_, n5, ⟨fun a m hm => ?_, c5.nd, fun a z => ?_, c5.dis⟩, ?_, p3.mono lD⟩
        · have t15 : Tr g1 H1 g5 H5 := t2.trans (t34.trans t5)
          refine ⟨fun a o e n => ?_, fun a n => ?_, t15.nw⟩
          · rw [upd_ne (fun z => by rw [z, hD] at e; cases e)]; exact t15.kp a o e n
          · rw [upd_ne (fun z => by rw [z] at n; exact n hD)]; exact t15.th a n
        · obtain ⟨o, h7, h8⟩ := c5.cells a m hm
          have ne : a ≠ Dl := by
            rintro rfl
            exact n5 (List.mem_map.mpr ⟨(a, m), hm, rfl⟩)
          exact ⟨o, by rw [upd_ne ne]; exact h7, h8.mono lD⟩
        · by_cases hz : a = Dl
          · rw [hz, upd_same]; simp
          · rw [upd_ne hz]; exact c5.dom a z
        · rw [upd_same, p1]
      | false => exact ⟨kk, acc, g3, us, q3, t2.trans t34, n3, c4, hD4, r4⟩
    · rintro H' ⟨kk, acc, gg, us, h1, h2, h3, h4, h5, h6⟩
      obtain ⟨_, _, hk3, _⟩ := ik _ kk acc gg h1
      have lf : Leq (MM (MD M Dl) gg) (MM M (gg ++ [(Dl, MO.dic kk acc)])) H' H' := ⟨fun _ _ _ e => e, fun a n _ z => by
        rcases z with z | z
        · exact n (.inl (.inl z))
        · unfold ks at z
          rw [List.map_append, List.mem_append] at z
          rcases z with z | z
          · exact n (.inr z)
          · exact n (.inl (.inr (by simpa using z)))⟩
      refine k _ _ _ H' (ie kk acc gg h1 Dl h3) (t1.trans ⟨h2.kp, h2.th, fun a z => ?_⟩) ⟨fun a m hm => ?_, ?_, fun a z => h4.dom a (.inl z), fun a z1 z2 => ?_⟩ rfl
      · unfold ks at z
        rw [List.map_append, List.mem_append] at z
        rcases z with z | z
        · exact h2.nw a z
        · have : a = Dl := by simpa using z
          rw [this]; exact .inr hD
      · rcases List.mem_append.mp hm with hm | hm
        · obtain ⟨o, h7, h8⟩ := h4.cells a m hm
          exact ⟨o, h7, h8.mono lf⟩
        · have e : (a, m) = (Dl, MO.dic kk acc) := by simpa using hm
          cases e
          exact ⟨_, h5, us, rfl, hk3, h6.mono lf⟩
      · unfold ks
        rw [List.map_append]
        refine List.nodup_append.mpr ⟨h4.nd, by simp, fun a ha b hb e => ?_⟩
        have : b = Dl := by simpa using hb
        rw [e, this] at ha
        exact h3 ha
      · unfold ks at z1
        rw [List.map_append, List.mem_append] at z1
        rcases z1 with z1 | z1
        · exact h4.dis a z1 (.inl z2)
        · have : a = Dl := by simpa using z1
          subst this
          exact nM z2
end
end Dl
set_option Elab.async false
set_option linter.all false
set_option maxRecDepth 100000
set_option maxHeartbeats 2000000
set_option autoImplicit false
namespace Dl
open PySem PySem.Spec PyProof.Rows L2
/-! ### small joins -/
section
variable {K : PySem.W.Frag} {env : DEnv} {g : G}
theorem ws_fld1 {i : Nat} {tv : TE} {E : DE} {a C : Addr} {ns : List Str} {xs : List D} {f : Str} (ha : env[i]? = some (some (.v (.ref a)))) (hc : Cls K C) (hn : NoAttr K C f) (h1 : f ∉ ns) (h2 : ns.length < 100)
    (h : YE tv env [(a, .obj C ns xs)] fun d g1 => g1 = [(a, .obj C ns xs)] ∧ E.nx env [(a, .obj C (ns ++ [f]) (xs ++ [d]))]) : WS (sFld K (tVar i) tv f) env [(a, .obj C ns xs)] E := by
  refine ws_fld (h.mono ?_)
  rintro d g1 ⟨rfl, q⟩
  exact ye_var ha ⟨a, C, ns, xs, rfl, List.mem_singleton.mpr rfl, hc, hn, h1, h2, by rw [setG_one]; exact q⟩
end
theorem empty_app (d : PySem.Str) : PySem.Str.empty ++ d = d := by
  have e : (PySem.Str.empty ++ d).cps = d.cps := by
    rw [PySem.Str.cps_append]
    simp [PySem.Str.empty]
  exact congrArg PySem.Str.mk e
theorem len_empty : Str.length Str.empty = 0 := rfl
theorem len_space : Str.length (" " : Str) = 1 := by decide +kernel
/-! ### cells that are forgotten -/
theorem ks_sub {g g' : G} (s : g'.Sublist g) : (ks g').Sublist (ks g) := s.map _
theorem cok_sub {M : Addr → Prop} {g g' : G} {H : Hp} (c : Cok M g H) (s : g'.Sublist g) : Cok M g' H ∧ Tr g H g' H ∧ Leq (MM M g) (MM M g') H H := by
  have lq : Leq (MM M g) (MM M g') H H := ⟨fun _ _ _ e => e, fun a n _ z => n (z.elim .inl fun z => .inr ((ks_sub s).subset z))⟩
  refine ⟨⟨fun a m h => ?_, (ks_sub s).nodup c.nd, c.dom, fun a h => c.dis a ((ks_sub s).subset h)⟩, ⟨fun a o e _ => e, fun _ h => h, fun a z => .inl ((ks_sub s).subset z)⟩, lq⟩
  obtain ⟨o, h1, h2⟩ := c.cells a m (s.subset h)
  exact ⟨o, h1, h2.mono lq⟩
section
variable {env : DEnv} {g : G} {te : TE} {ts : TS} {Ψ : D → G → Prop} {E : DE}
theorem ye_sub (h : YE te env g fun d g1 => ∃ g2, g2.Sublist g1 ∧ Ψ d g2) : YE te env g Ψ := fun M σ H s Q k =>
  h M σ H s _ fun d g1 v H1 ⟨g2, hs, q⟩ t1 c1 r1 => by
    obtain ⟨c2, t2, lq⟩ := cok_sub c1 hs
    exact k d g2 v H1 q (t1.trans t2) c2 (r1.mono lq)
/-- the last cell, a list, is not changed any more -/
theorem ye_frzL (h : YE te env g fun d g1 => ∃ a g2 xs, d = .v (.ref a) ∧ g1 = g2 ++ [(a, .lst xs)] ∧ Ψ (.lst xs) g2) : YE (tFrz te) env g Ψ := fun M σ H s Q k =>
  h M σ H s _ fun d g1 v H1 hh t1 c1 r1 => by
    obtain ⟨a, g2, xs, ed, eg, q⟩ := hh
    subst ed eg
    obtain ⟨o, h2, vs, eo, r2⟩ := c1.cells a (.lst xs) (by simp)
    subst eo
    obtain ⟨c2, t2, lq⟩ := cok_sub c1 (List.sublist_append_left g2 [(a, MO.lst xs)])
    have na : ¬ MM M g2 a := fun z => by
      have nd := c1.nd
      unfold ks at nd
      rw [List.map_append] at nd
      rcases z with z | z
      · exact c1.dis a (by simp [ks]) z
      · exact (List.nodup_append.mp nd).2.2 a z a (by simp) rfl
    exact .inl (k _ g2 v H1 q (t1.trans t2) c2 ⟨a, vs, r1, na, h2, r2.mono lq⟩)
theorem ws_sub {g2 : G} (hs : g2.Sublist g) (h : WS ts env g2 E) : WS ts env g E := fun M σ H s Z f => by
  obtain ⟨c2, t2, lq⟩ := cok_sub s.toCok hs
  exact h M σ H (s.to t2 c2) Z (f.to t2)
end
/-! ### calls of defs by the form of their promise -/
section
variable {env : DEnv} {g : G} {tr : TA} {ta : TE} {Ψ : D → G → Prop} {X : XK}
theorem ye_callQ {α : Type} {pre : α → List D → Prop} {res : α → D} (h : YA tr env g fun ds g1 => ∃ x, pre x ds ∧ Ψ (res x) g1) : YE (tCall (spR (pureR pre res)) [] X tr) env g Ψ :=
  ye_callP fun M σ H s Q k => h M σ H s Q fun ds g1 vs H1 ⟨x, p, q⟩ t c r => k ds g1 vs H1 ⟨rfl, x, p, q⟩ t c r
theorem ye_methQ {α : Type} {C : Addr} {m : Str} {pre : α → List D → Prop} {res : α → D} (h : YE ta env g fun x g1 => ∃ ns xs, OV g1 x C ns xs ∧ m ∉ ns ∧ YA tr env g1 fun ds g2 => ∃ y, pre y (x :: ds) ∧ Ψ (res y) g2) :
    YE (tMeth C m (spR (pureR pre res)) [] X ta tr) env g Ψ :=
  ye_methP (h.mono fun x g1 ⟨ns, xs, ov, hm, h2⟩ => ⟨ns, xs, ov, hm, fun M σ H s Q k => h2 M σ H s Q fun ds g2 vs H2 ⟨y, p, q⟩ t c r => k ds g2 vs H2 ⟨rfl, y, p, q⟩ t c r⟩)
/-- C(..) by an __init__ that fills the new cell -/
theorem ye_makeQ {α : Type} {C : Addr} {pre : α → List D → G → Prop} {post : α → G} (h : YA tr env g fun ds g1 => ∀ a, a ∉ ks g1 → ∃ x ns xs, pre x (.v (.ref a) :: ds) [(a, .obj C [] [])] ∧ post x = [(a, .obj C ns xs)] ∧ Ψ (.obj C ns xs) g1) :
    YE (tMake C (spR (detR pre (fun _ => .v .non) post)) [] X tr) env g Ψ :=
  ye_make fun M σ H s Q k => h M σ H s Q fun ds g1 vs H1 hh t c r => k ds g1 vs H1 (fun a ha => let ⟨x, ns, xs, p, e, q⟩ := hh a ha; ⟨x, p, rfl, ns, xs, e, q⟩) t c r
end
/-! ### == of data -/
mutual
def pyOf : D → PyData
  | .v .non => .none
  | .v (.bl b) => .bool b
  | .v (.int i) => .int i
  | .v (.str s) => .str s
  | .lst xs => .list (pyOfs xs)
  | .tup xs => .tuple (pyOfs xs)
  | _ => .none
def pyOfs : List D → List PyData
  | [] => []
  | d :: ds => pyOf d :: pyOfs ds
end
mutual
def isPy : Nat → D → Bool
  | _, .v .non => true
  | _, .v (.bl _) => true
  | _, .v (.int _) => true
  | _, .v (.str s) => PyData.strOk s
  | n + 1, .lst xs => isPys n xs
  | n + 1, .tup xs => isPys n xs
  | _, _ => false
def isPys : Nat → List D → Bool
  | _, [] => true
  | n, d :: ds => isPy n d && isPys n ds
end
mutual
theorem isPy_ok : ∀ {d : D} {n : Nat}, isPy n d = true → (pyOf d).canLay0 = true ∧ (pyOf d).depth ≤ n
  | .v .non, n, h => ⟨rfl, by simp [pyOf, PyData.depth]⟩
  | .v (.bl _), n, h => ⟨rfl, by simp [pyOf, PyData.depth]⟩
  | .v (.int _), n, h => ⟨rfl, by simp [pyOf, PyData.depth]⟩
  | .v (.str s), n, h => ⟨by simpa [pyOf, PyData.canLay0, isPy] using h, by simp [pyOf, PyData.depth]⟩
  | .v (.ref _), n, h => by cases n <;> simp [isPy] at h
  | .v (.ty _), n, h => by cases n <;> simp [isPy] at h
  | .lst xs, n, h => by
    cases n with
    | zero => simp [isPy] at h
    | succ n =>
      obtain ⟨h1, h2⟩ := isPys_ok (ds := xs) (n := n) (by simpa [isPy] using h)
      exact ⟨by simpa [pyOf, PyData.canLay0] using h1, by simp only [pyOf, PyData.depth]; omega⟩
  | .tup xs, n, h => by
    cases n with
    | zero => simp [isPy] at h
    | succ n =>
      obtain ⟨h1, h2⟩ := isPys_ok (ds := xs) (n := n) (by simpa [isPy] using h)
      exact ⟨by simpa [pyOf, PyData.canLay0] using h1, by simp only [pyOf, PyData.depth]; omega⟩
  | .raw _ _ _, n, h => by cases n <;> simp [isPy] at h
  | .dic _ _, n, h => by cases n <;> simp [isPy] at h
  | .dit _ _, n, h => by cases n <;> simp [isPy] at h
  | .obj _ _ _, n, h => by cases n <;> simp [isPy] at h
theorem isPys_ok : ∀ {ds : List D} {n : Nat}, isPys n ds = true → PyData.canLayAll0 (pyOfs ds) = true ∧ PyData.depthAll (pyOfs ds) ≤ n
  | [], n, h => ⟨rfl, by simp [pyOfs, PyData.depthAll]⟩
  | d :: ds, n, h => by
    have h' : isPy n d = true ∧ isPys n ds = true := by simpa [isPys] using h
    obtain ⟨h1, h2⟩ := isPy_ok h'.1
    obtain ⟨h3, h4⟩ := isPys_ok h'.2
    exact ⟨by simp [pyOfs, PyData.canLayAll0, h1, h3], by simp only [pyOfs, PyData.depthAll]; omega⟩
end
section
variable {K : PySem.W.Frag} {M : Addr → Prop} {H : Hp}
mutual
theorem dp_of : ∀ {d : D} {n : Nat} {u : V}, isPy n d = true → Rep M H d u → Dp K H u (pyOf d)
  | .v .non, n, u, h, r => by rw [show u = .non from r]; exact .non
  | .v (.bl _), n, u, h, r => by rw [show u = .bl _ from r]; exact .bl _
  | .v (.int _), n, u, h, r => by rw [show u = .int _ from r]; exact .int _
  | .v (.str s), n, u, h, r => by rw [show u = .str _ from r]; exact .str _
  | .v (.ref _), n, _, h, _ => by cases n <;> simp [isPy] at h
  | .v (.ty _), n, _, h, _ => by cases n <;> simp [isPy] at h
  | .lst xs, n, u, h, r => by
    obtain ⟨a, vs, e, m, h1, r1⟩ := r
    subst e
    cases n with
    | zero => simp [isPy] at h
    | succ n => exact .lst (.of h1) (dps_of (by simpa [isPy] using h) r1)
  | .tup xs, n, u, h, r => by
    obtain ⟨a, vs, e, m, h1, r1⟩ := r
    subst e
    cases n with
    | zero => simp [isPy] at h
    | succ n => exact .tup (.of h1) (dps_of (by simpa [isPy] using h) r1)
  | .raw _ _ _, n, _, h, _ => by cases n <;> simp [isPy] at h
  | .dic _ _, n, _, h, _ => by cases n <;> simp [isPy] at h
  | .dit _ _, n, _, h, _ => by cases n <;> simp [isPy] at h
  | .obj _ _ _, n, _, h, _ => by cases n <;> simp [isPy] at h
theorem dps_of : ∀ {ds : List D} {n : Nat} {us : List V}, isPys n ds = true → Reps M H ds us → DpAll K H us (pyOfs ds)
  | [], n, us, h, r => by rw [show us = [] from r]; exact .nil
  | d :: ds, n, us, h, r => by
    obtain ⟨u, us', e, r1, r2⟩ := r
    subst e
    have h' : isPy n d = true ∧ isPys n ds = true := by simpa [isPys] using h
    exact .cons (dp_of h'.1 r1) (dps_of h'.2 r2)
end
end
theorem shaped_of {d : D} (h : isPy 60 d = true) : SeqAt.shaped (pyOf d) = true := by
  obtain ⟨h1, h2⟩ := isPy_ok h
  unfold SeqAt.shaped
  rw [h1, decide_eq_true (by omega)]; rfl
section
variable {K : PySem.W.Frag} {g : G} {x y : D} {Ψ : D → G → Prop}
theorem eqA_P (hx : isPy 60 x = true) (hy : isPy 60 y = true) (q : Ψ (dB (PyData.eqv (pyOf x) (pyOf y))) g) : RD (rEqA K) x y g Ψ := rd_r fun M H c u w ru rw Q k =>
  ⟨_, _, dp_of hx ru, dp_of hy rw, shaped_of hx, shaped_of hy, k _ g _ H q .refl c rfl⟩
theorem neA_P (hx : isPy 60 x = true) (hy : isPy 60 y = true) (q : Ψ (dB (!PyData.eqv (pyOf x) (pyOf y))) g) : RD (rNeA K) x y g Ψ := rd_r fun M H c u w ru rw Q k =>
  ⟨_, _, dp_of hx ru, dp_of hy rw, shaped_of hx, shaped_of hy, k _ g _ H q .refl c rfl⟩
/-- lists, cells among them -/
theorem eqA_C {xs ys : List D} (lx : LV g x xs) (ly : LV g y ys) (hx : isPys 59 xs = true) (hy : isPys 59 ys = true) (q : Ψ (dB (PyData.eqvAll (pyOfs xs) (pyOfs ys))) g) : RD (rEqA K) x y g Ψ := rd_r fun M H c u w ru rw Q k => by
  obtain ⟨a, vs, e1, h1, r1⟩ := lx.at c ru
  obtain ⟨b, ws, e2, h2, r2⟩ := ly.at c rw
  subst e1 e2
  refine ⟨.list (pyOfs xs), .list (pyOfs ys), .lst (.of h1) (dps_of hx r1), .lst (.of h2) (dps_of hy r2), shaped_of (d := .lst xs) (by simpa [isPy] using hx), shaped_of (d := .lst ys) (by simpa [isPy] using hy), ?_⟩
  exact k (dB (PyData.eqvAll (pyOfs xs) (pyOfs ys))) g _ H q .refl c (by rw [show PyData.eqv (.list (pyOfs xs)) (.list (pyOfs ys)) = PyData.eqvAll (pyOfs xs) (pyOfs ys) from by rw [PyData.eqv]]; rfl)
theorem neA_C {xs ys : List D} (lx : LV g x xs) (ly : LV g y ys) (hx : isPys 59 xs = true) (hy : isPys 59 ys = true) (q : Ψ (dB (!PyData.eqvAll (pyOfs xs) (pyOfs ys))) g) : RD (rNeA K) x y g Ψ := rd_r fun M H c u w ru rw Q k => by
  obtain ⟨a, vs, e1, h1, r1⟩ := lx.at c ru
  obtain ⟨b, ws, e2, h2, r2⟩ := ly.at c rw
  subst e1 e2
  refine ⟨.list (pyOfs xs), .list (pyOfs ys), .lst (.of h1) (dps_of hx r1), .lst (.of h2) (dps_of hy r2), shaped_of (d := .lst xs) (by simpa [isPy] using hx), shaped_of (d := .lst ys) (by simpa [isPy] using hy), ?_⟩
  exact k (dB (!PyData.eqvAll (pyOfs xs) (pyOfs ys))) g _ H q .refl c (by rw [show PyData.eqv (.list (pyOfs xs)) (.list (pyOfs ys)) = PyData.eqvAll (pyOfs xs) (pyOfs ys) from by rw [PyData.eqv]]; rfl)
end
theorem isPys_map {α : Type} {f : α → D} {n : Nat} : ∀ {xs : List α}, (∀ x ∈ xs, isPy n (f x) = true) → isPys n (xs.map f) = true
  | [], _ => rfl
  | x :: xs, h => by
    rw [List.map_cons, isPys, h x (by simp), isPys_map fun y hy => h y (by simp [hy])]; rfl
theorem pyOfs_map {α : Type} {f : α → D} : ∀ {xs : List α}, pyOfs (xs.map f) = xs.map fun x => pyOf (f x)
  | [] => rfl
  | x :: xs => by rw [List.map_cons, pyOfs, pyOfs_map]; rfl
theorem eqvAll_map {α : Type} [DecidableEq α] {f : α → PyData} (h : ∀ a b, PyData.eqv (f a) (f b) = decide (a = b)) : ∀ {xs ys : List α}, PyData.eqvAll (xs.map f) (ys.map f) = decide (xs = ys)
  | [], [] => rfl
  | [], _ :: _ => rfl
  | _ :: _, [] => rfl
  | x :: xs, y :: ys => by
    rw [List.map_cons, List.map_cons, PyData.eqvAll, h, eqvAll_map h]
    by_cases e1 : x = y <;> by_cases e2 : xs = ys <;> simp [e1, e2]
theorem beq_dec {α : Type} [DecidableEq α] (a b : α) : (a == b) = decide (a = b) := by
  by_cases h : a = b
  · subst h; simp
  · simp [h]
theorem eqv_S (a b : Str) : PyData.eqv (.str a) (.str b) = decide (a = b) := by rw [PyData.eqv]; exact beq_dec a b
theorem eqv_strs {xs ys : List Str} : PyData.eqvAll (pyOfs (xs.map dS)) (pyOfs (ys.map dS)) = decide (xs = ys) := by
  rw [pyOfs_map, pyOfs_map]
  exact eqvAll_map fun a b => eqv_S a b
/-! ### texts without odd signs -/
theorem strOk_app {a b : Str} (ha : PyData.strOk a = true) (hb : PyData.strOk b = true) : PyData.strOk (a ++ b) = true := by
  unfold PyData.strOk at *
  rw [PySem.Str.cps_append, Array.all_append, ha, hb]; rfl
theorem strOk_of {s : Str} (h : ∀ c ∈ s.cps.toList, c < 0x110000) : PyData.strOk s = true := by
  unfold PyData.strOk
  rw [Array.all_eq_true_iff_forall_mem]
  exact fun c hc => decide_eq_true (h c (by simpa using hc))
end Dl
set_option Elab.async false
set_option linter.all false
set_option maxRecDepth 100000
set_option maxHeartbeats 2000000
set_option autoImplicit false
namespace Dl
open PySem PySem.Spec PyProof.Rows L2
/-! ### list(d.items()) -/
def itemsD : List Key → List D → List D
  | k :: ks, x :: xs => .tup [.v (kV k), x] :: itemsD ks xs
  | _, _ => []
section
variable {env : DEnv} {g : G} {te : TE} {Ψ : D → G → Prop}
theorem items_rep {M : Addr → Prop} {H H' : Hp} : ∀ {kk : List Key} {xs : List D} {vs : List V} {ts : List Addr}, kk.length = xs.length → Reps M H' xs vs → (∀ t ∈ ts, ¬ M t) → Paired (fun (t : Addr) (q : Key × V) => H' t = some (.tup [kV q.1, q.2])) ts (kk.zip vs) → Reps M H' (itemsD kk xs) (ts.map V.ref)
  | [], [], vs, ts, _, r, hm, p => by
    rw [show vs = [] from r] at p
    cases p
    rfl
  | [], _ :: _, _, _, h, _, _, _ => by simp at h
  | _ :: _, [], _, _, h, _, _, _ => by simp at h
  | k :: kk, x :: xs, vs, ts, h, r, hm, p => by
    obtain ⟨u, us, e, r1, r2⟩ := r
    subst e
    rw [List.zip_cons_cons] at p
    cases p with
    | cons p1 p2 =>
      exact ⟨_, _, rfl, ⟨_, _, rfl, hm _ (by simp), p1, .cons rfl (.one r1)⟩, items_rep (H := H) (by simpa using h) r2 (fun t ht => hm t (by simp [ht])) p2⟩
theorem ye_items (h : YE te env g fun d g1 => ∃ kk xs, d = .dic kk xs ∧ Ψ (.lst (itemsD kk xs)) g1) : YE (tListItemsF te) env g Ψ := fun M σ H s Q k =>
  h M σ H s _ fun d g1 v H1 hh t1 c1 r1 => by
    obtain ⟨kk, xs, e, q⟩ := hh
    subst e
    obtain ⟨a, o, vs, ev, n, h1, hl, r⟩ := r1
    refine ⟨a, o, _, ev, h1, fun H' p ts ex hp ht hpt hl' pr => ?_⟩
    have t2 : Tr g1 H1 g1 H' := .ex ex
    have r' : Reps (MM M g1) H' xs vs := r.mono (t2.leq c1.dom)
    exact k _ g1 _ H' q (t1.trans t2) (c1.grow ex) ⟨p, _, rfl, new_rep c1 hp, hl', items_rep (H := H1) hl r' (fun t h => new_rep c1 (ht t h)) pr⟩
end
theorem itemsD_map {α : Type} {f : α → Key} {r : α → D} : ∀ {xs : List α}, itemsD (xs.map f) (xs.map r) = xs.map fun x => .tup [.v (kV (f x)), r x]
  | [] => rfl
  | x :: xs => by rw [List.map_cons, List.map_cons, itemsD, itemsD_map]; rfl
end Dl
set_option Elab.async false
set_option linter.all false
set_option maxRecDepth 100000
set_option maxHeartbeats 2000000
set_option autoImplicit false
namespace Dl
open PySem PySem.Spec PyProof.Rows L2 PySem.Builtin PySem.Builtin.Str
/-! ### x.replace(y, "", 1) -/
/-- the text without the first part y -/
def lackS (x y : Str) : Str := if (occurrences x y 0 x.length 1).isEmpty = true then x else glued Str.empty (partsBetween x (occurrences x y 0 x.length 1) y.length)
theorem lackS_len (x y : Str) : (lackS x y).length ≤ x.length := by
  unfold lackS
  split
  · exact Nat.le_refl _
  · have hy : (glued y (partsBetween x (occurrences x y 0 x.length 1) y.length)).length = x.length := by rw [StrLaws.glued_between_self]
    rw [size_glued, length_partsBetween, Nat.add_sub_cancel] at hy
    rw [size_glued, length_partsBetween, Nat.add_sub_cancel]
    have : Str.length Str.empty = 0 := rfl
    rw [this, Nat.mul_zero]; omega
theorem gives_replace1 (x y : Str) (t u v k : Tok) (h0 : (u == 0 || v == 0) = false) (huv : (u == v) = false) (hyz : (y == Str.empty) = false) (hl : tooLong x.length = false) (hy : (y.length == 0) = false) :
    Gives («str.replace» ⟨[.str x t, .str y u, .str Str.empty v, .int 1 k], []⟩) (if (occurrences x y 0 x.length 1).isEmpty = true then .val (.str x t) else .str (lackS x y)) := by
  show Gives (if ((occurrences x y 0 x.length 1).isEmpty || (y.length == 0 && Str.empty.length == 0)) = true then (do rule "str.replace.nothing"; ret (.str x t)) else
          (do let same ← isSame (.str y u) (.str Str.empty v)
              if same = true then (do rule "str.replace.old-is-new"; ret (.str x t)) else
              if tooLong (x.length + (occurrences x y 0 x.length 1).length * Str.empty.length) = true then unsupported "str.replace:memory" else
              retStr (glued Str.empty (partsBetween x (occurrences x y 0 x.length 1) y.length)))) _
  rw [hy, Bool.false_and, Bool.or_false]
  cases hc : (occurrences x y 0 x.length 1).isEmpty
  · rw [isSame_str_other y Str.empty u v h0 huv hyz, show x.length + (occurrences x y 0 x.length 1).length * Str.empty.length = x.length from by show _ + _ * 0 = _; rw [Nat.mul_zero, Nat.add_zero], hl]
    unfold lackS
    rw [hc]
    exact .of_eq rfl
  · exact .rule (.of_eq rfl)
section
variable {prog : Program} {w : World} {A : Around} {E : Value → Shared → Prop} {s : Shared} {x y : Str} {t u v k : Tok} {Q : Value → Shared → Prop}
theorem call_replace1 (hu : u ≠ 0) (hv : v ≠ 0) (huv : u ≠ v) (hy : y.length ≠ 0) (hb : x.length ≤ 1000000) (hq : ∀ t' k, Q (.str (lackS x y) t') { s with toks := k }) :
    wpAny (model prog w) A (call (.builtin "str.replace") [.str x t, .str y u, .str Str.empty v, .int 1 k]) Q E s := by
  have hl : tooLong x.length = false := by
    unfold tooLong
    rw [sizeLine_eq]
    exact decide_eq_false (by omega)
  have hyz : (y == Str.empty) = false := by
    cases e : y == Str.empty with
    | false => rfl
    | true => exact absurd (by rw [eq_of_beq e]; rfl) hy
  refine call_gives F.slot_str_replace (typeIs_str _ _ _) F.entry_str_replace (F.args_str_replace_4 _ _ _ _) (gives_replace1 x y t u v k (by simp [hu, hv]) (by simp [huv]) hyz hl (by simp [hy])) ?_
  have hq' := hq
  unfold lackS at hq'
  cases hc : (occurrences x y 0 x.length 1).isEmpty
  · rw [hc] at hq'
    simp only [Bool.false_eq_true, if_false] at hq' ⊢
    refine ⟨?_, ?_⟩
    · have := lackS_len x y
      rw [sizeLine_eq]; omega
    · have e : lackS x y = glued Str.empty (partsBetween x (occurrences x y 0 x.length 1) y.length) := by unfold lackS; rw [hc]; rfl
      rw [e]
      exact hq' _ _
  · rw [hc] at hq'
    simp only [if_true] at hq' ⊢
    exact hq' t s.toks
end
end Dl
set_option Elab.async false
set_option linter.all false
set_option maxRecDepth 100000
set_option maxHeartbeats 2000000
set_option autoImplicit false
namespace Dl
open PySem PySem.Spec PyProof.Rows L2
/-! ### a def of the text, run on values with their tokens -/
theorem fn_raw {CX : CXT} {P : Program} {w : World} {K : PySem.W.Frag} {mg : Str → Option Value} {base : Heap} {k : Nat} {f : Addr} {x qual : Str} {params : Arguments} {body : List Stmt} {scope : Scope} {fd : FuncData} {N ps : List Str}
    (F : FunD K x qual params body scope [] [] f fd) (S : FnScope N ps scope) {A : Around} {outer : List Env} {s : Shared} {H : Hp} {args : Args} {us : List Value} {vs : List V} {E : XK} {R : Result → Shared → Prop}
    (hr : Room (k + 1) A) (e0 : Env0 P w K mg base A outer s H) (hb : BindsTo s fd args (ps.zip us)) (hl : vs.length = ps.length) (r : Vals vs us) (hE : ∀ e s', CX outer H s E e s' → R (.error e) s')
    (h : ∀ (cdv : Value) (s1 : Shared), s.toks ≤ s1.toks → Room k (A.deeper (envOfC qual scope s.heap.objs.size f cdv)) → Inv (cxOf CX P w K mg base N qual scope f cdv A outer s H E) [] (start N vs) H s1 →
      s1.heap.Ns (envOfC qual scope s.heap.objs.size f cdv).locals (bindL (envOfC qual scope s.heap.objs.size f cdv).kindOf (ps.zip us) fun _ => none) →
      wpAny (model P w) (A.deeper (envOfC qual scope s.heap.objs.size f cdv)) (execs body (envOfC qual scope s.heap.objs.size f cdv)) (fun fl s' => (∃ u, fl = .ret u ∧ R (.ok (.ret u)) s') ∨ (fl = .next ∧ R (.ok (.ret .none)) s')) (cxOf CX P w K mg base N qual scope f cdv A outer s H E).xe s1) :
    codeAny (model P w) A (.call (.ref f) args) R s := by
  obtain ⟨oc, od, dV, kV, doc, pm, an, cdv, ct, osl, rfl, lk, hcd, _, _⟩ := F.ex
  have KX : K.In s.heap := e0.mod.kin.keeps fun b o e => (e0.bs b o e).1
  have lim : s.heap.NoLimit := e0.mod.nolimit.keeps fun b o e => (e0.bs b o e).1
  have hkind : ∀ y ∈ ps.zip us, scope.names.lookup y.1 = some .local ∨ (scope.names.lookup y.1 = some .cell ∧ ((cellsFrom (s.heap.objs.size + 1) scope.names []).lookup y.1).isSome = true) := fun ⟨n, v⟩ hy => by
    rcases S.par n (List.of_mem_zip hy).1 with q | q
    · exact .inl q
    · exact .inr ⟨q, PySem.W.cellsFrom_some _ _ _ (.inl q)⟩
  refine codeAny_call_function hr.depth (KX _ _ lk) rfl S.co S.gen rfl (PySem.W.codeRec_of KX hcd) (hb _ _ _ _ ?_)
  refine wpAny_with_toks (Nat.le_refl _) (wpAny_newFunctionEnv_cells S.kind hkind fun env he s1 xx => fun hk => ?_)
  subst he
  refine ⟨lim.keeps xx.toInCall.keep, codeAny_func ?_⟩
  have I : Inv (cxOf CX P w K mg base N qual scope f cdv A outer s H E) [] (start N vs) H s1 := inv_start S hr.hd e0 hl r xx
  refine wpAny_mono (h cdv s1 hk (hr.deeper _) I xx.toInCall.ns) (fun fl s' hs => ?_) fun e s' hs => ?_
  · rcases hs with ⟨u, rfl, q⟩ | ⟨rfl, q⟩
    · exact q
    · exact q
  · exact wpAny_mono hs (fun _ s'' q => hE _ _ q) fun _ s'' q => hE _ _ q
end Dl
set_option Elab.async false
set_option linter.all false
set_option maxRecDepth 100000
set_option maxHeartbeats 2000000
set_option autoImplicit false
namespace Dl
open PySem PySem.Spec PyProof.Rows L2
/-! ### def f(text, part): return text.replace(part, "", 1) -/
def LackRun (P : Program) (w : World) (K : PySem.W.Frag) (mg : Str → Option Value) (base : Heap) (k : Nat) (f : Addr) : Prop :=
  ∀ (A : Around) (outer : List Env) (s : Shared) (H : Hp) (z c : Str) (tz t : Tok) (Q : VK) (E : XK), Room k A → Env0 P w K mg base A outer s H → t ≠ 0 → t < s.toks → c.length ≠ 0 → z.length ≤ 1000000 → Q (.str (lackS z c)) H →
    codeAny (model P w) A (.call (.ref f) ⟨[.str z tz, .str c t], []⟩) (CR CX0 outer P w H s Q E) s
theorem lack_run {P : Program} {w : World} {K : PySem.W.Frag} {mg : Str → Option Value} {base : Heap} {k : Nat} {f : Addr} {x qual : Str} {params : Arguments} {body : List Stmt} {scope : Scope} {fd : FuncData} {N : List Str} {a0 a1 : Str} {p1 p2 apos cpos rpos q0 q1 : Pos} {j0 j1 : Nat}
    (Fd : FunD K x qual params body scope [] [] f fd) (S : FnScope N [a0, a1] scope) (hbd : body = [.Return (some (.Call (.Attribute (.Name a0 p1) "replace" apos) [.Name a1 p2, .Constant (.str Str.empty) j0 q0, .Constant (.int 1) j1 q1] [] cpos)) rpos])
    (hb : Binds K fd [a0, a1] []) (h0 : scope.names.lookup a0 = some .local) (h1 : scope.names.lookup a1 = some .local) (d0 : (a0 == ("__debug__" : Str)) = false) (d1 : (a1 == ("__debug__" : Str)) = false) (hline : (apos.endLine == cpos.line) = true) : LackRun P w K mg base (k + 1) f := by
  intro A outer s H z c tz t Q E hr e0 ht htk hc hz hq
  have KX : K.In s.heap := e0.mod.kin.keeps fun b o e => (e0.bs b o e).1
  refine fn_raw (CX := CX0) Fd S (us := [.str z tz, .str c t]) (vs := [.str z, .str c]) (E := E) hr e0 (hb s [.str z tz, .str c t] KX rfl) rfl (.cons ⟨tz, rfl⟩ (.cons ⟨t, rfl⟩ .nil)) (fun e s' z => z) fun cdv s1 hk hr1 I hn => ?_
  subst hbd
  have nd : [a0, a1].Nodup := by
    have e : [a0, a1] = N.take 2 := S.pre.symm
    rw [e]
    exact S.nd.sublist (List.take_sublist _ _)
  have m0 := bindL_get (kindOf := (envOfC qual scope s.heap.objs.size f cdv).kindOf) (x := a0) (v := Value.str z tz) (P := [a0, a1]) (vs := [.str z tz, .str c t]) (i := 0) (m := fun _ => none) nd rfl rfl h0
  have m1 := bindL_get (kindOf := (envOfC qual scope s.heap.objs.size f cdv).kindOf) (x := a1) (v := Value.str c t) (P := [a0, a1]) (vs := [.str z tz, .str c t]) (i := 1) (m := fun _ => none) nd rfl rfl h1
  have fin : ∀ {σ' : L2.St} {H' : Hp} {v : V} {r : Value} {s' : Shared}, Inv (cxOf CX0 P w K mg base N qual scope f cdv A outer s H E) [] σ' H' s' → RelV v r → Q v H' → CE outer P w H s Q r s' :=
    fun {σ' H' v r s'} J rv q => ⟨v, H', J.os, J.bare, J.base, J.hok, rv, q⟩
  refine wpAny_execs_cons (wpAny_Return_some (PySem.wpAny_Call_method_lateS rfl rfl hline (wpAny_Name (wpAny_loadName_local S.kind h0 hn m0 ?_) d0)))
  refine ⟨"str", _, F.plainAttrs_str, F.slot_str_replace, F.type_str_replace, typeIs_str _ _ _, (fun _ e => nomatch e), Calls.callWith_builtin rfl (Calls.evalArgs_plain (Calls.spliced_cons ?_))⟩
  refine wpAny_Name (wpAny_loadName_local S.kind h1 hn m1 ?_) d1
  show wpAny _ _ (spliced [(false, eval (.Constant (.str Str.empty) j0 q0) (envOfC qual scope s.heap.objs.size f cdv)), (false, eval (.Constant (.int 1) j1 q1) (envOfC qual scope s.heap.objs.size f cdv))]) _ _ _
  refine Calls.spliced_cons (Calls.Constant_str (Calls.spliced_cons (wpAny_Constant_int (Calls.spliced_nil ?_))))
  refine call_replace1 ht (Nat.ne_of_gt (Nat.lt_of_le_of_lt (Nat.zero_le _) (Nat.lt_of_lt_of_le htk hk))) (Nat.ne_of_lt (Nat.lt_of_lt_of_le htk hk)) hc hz fun t' k => ?_
  exact .inl ⟨_, rfl, fin (v := V.str (lackS z c)) (r := Value.str (lackS z c) t') (I.tok k) ⟨t', rfl⟩ hq⟩
end Dl
set_option Elab.async false
set_option linter.all false
set_option maxRecDepth 100000
set_option maxHeartbeats 2000000
set_option autoImplicit false
namespace Dl
open PySem PySem.Spec PyProof.Rows L2
/-! ### code that is run where at least n tokens are out -/
theorem thnT {α : Type} {t : Sem α} {Q Q' : α → Shared → Prop} {E : Value → Shared → Prop} {M : Model} {A : Around} {s : Shared} {n : Nat} (hn : n ≤ s.toks) (h : wpAny M A t Q E s) (k : ∀ a s', n ≤ s'.toks → Q a s' → Q' a s') : wpAny M A t Q' E s :=
  wpAny_mono (wpAny_toks_of hn h) (fun a s' x => k a s' x.1 x.2) fun _ _ x => x.2
theorem star_toks {M : Model} {A : Around} {E : Value → Shared → Prop} {v : Value} {Q : List Value → Shared → Prop} {s : Shared} {n : Nat} (hn : n ≤ s.toks) (h : PySem.W.StarOf M A E v (fun us s' => n ≤ s'.toks → Q us s') s) : PySem.W.StarOf M A E v Q s := by
  unfold PySem.W.StarOf at *
  refine thnT hn h fun b s2 hn2 q => ⟨q.1, ?_⟩
  exact thnT hn2 q.2 fun us s3 hn3 q3 => q3 hn3
structure PEn (n : Nat) (X : Cx) (e : Expr) (te : TE) : Prop where
  run : ∀ (pins : List (Addr × Obj)) (s : Shared) (σ : L2.St) (H : Hp) (Q : VK), n ≤ s.toks → Inv X pins σ H s → te σ H Q → wpAny (model X.prog X.w) X.A (eval e X.env) (EP X pins σ Q) X.xe s
structure PAn (n : Nat) (X : Cx) (es : List Expr) (t : TA) : Prop where
  run : ∀ (pos : Pos) (pins : List (Addr × Obj)) (s : Shared) (σ : L2.St) (H : Hp) (Q : List V → Hp → Prop), n ≤ s.toks → Inv X pins σ H s → t σ H Q → wpAny (model X.prog X.w) X.A (spliced (backTo pos (starEach es X.env))) (AP X pins σ Q) X.xe s
structure PSn (n : Nat) (X : Cx) (st : Stmt) (t : TS) : Prop where
  run : ∀ (pins : List (Addr × Obj)) (s : Shared) (σ : L2.St) (H : Hp) (D : Ends), n ≤ s.toks → Inv X pins σ H s → t D σ H → wpAny (model X.prog X.w) X.A (exec st X.env) (SP X pins D) X.xe s
structure PSsn (n : Nat) (X : Cx) (st : List Stmt) (t : TS) : Prop where
  run : ∀ (pins : List (Addr × Obj)) (s : Shared) (σ : L2.St) (H : Hp) (D : Ends), n ≤ s.toks → Inv X pins σ H s → t D σ H → wpAny (model X.prog X.w) X.A (execs st X.env) (SP X pins D) X.xe s
section
variable {n : Nat} {X : Cx} {e : Expr} {es : List Expr} {st : Stmt} {rest body a b : List Stmt} {te : TE} {ta tr : TA} {t u : TS} {pos : Pos}
theorem PEn.of (h : PE X e te) : PEn n X e te := ⟨fun pins s σ H Q _ I q => h.run pins s σ H Q I q⟩
theorem PAn.of (h : PA X es ta) : PAn n X es ta := ⟨fun pos pins s σ H Q _ I q => h.run pos pins s σ H Q I q⟩
theorem PSn.of (h : PS X st t) : PSn n X st t := ⟨fun pins s σ H D _ I q => h.run pins s σ H D I q⟩
theorem PSsn.of (h : PSs X rest t) : PSsn n X rest t := ⟨fun pins s σ H D _ I q => h.run pins s σ H D I q⟩
theorem psn_cons (h1 : PSn n X st t) (h2 : PSsn n X rest u) : PSsn n X (st :: rest) (tSeq t u) := by
  refine ⟨fun pins s σ H D hn I h => wpAny_execs_cons (thnT hn (h1.run pins s σ H { D with nx := u D } hn I h) fun f s1 hk q => ?_)⟩
  cases f with
  | next =>
    obtain ⟨σ', H', I', q⟩ := q
    exact h2.run pins s1 σ' H' D hk I' q
  | ret v => exact q
  | brk => exact q
  | cont => exact q
theorem psn_one (h1 : PSn n X st t) : PSsn n X [st] t := psn_cons h1 (.of pss_nil)
theorem psn_if {c : Expr} {tc : TT} (hc : PT X c tc) (ha : PSsn n X a t) (hb : PSsn n X b u) : PSn n X (.If c a b pos) (tIfS tc t u) := by
  refine ⟨fun pins s σ H D hn I h => wpAny_If (thnT hn (hc.run pins s σ H _ I h) fun d s1 hk q => ?_)⟩
  obtain ⟨H1, I1, q1⟩ := q
  cases d with
  | true => exact ha.run pins s1 σ H1 D hk I1 q1
  | false => exact hb.run pins s1 σ H1 D hk I1 q1
theorem psn_set {i : Nat} {x : Str} {pos' : Pos} (hN : X.N.Nodup) (hi : X.N[i]? = some x) (hx : Loc X.env.scope x) (he : PEn n X e te) (hs : swapsWith e (some (.Name x pos')) pos.line X.env = pure false := by rfl) (hf : X.fn x = true ∨ X.env.scope.names.lookup x = some .local := by first | exact .inl rfl | exact .inr rfl | assumption) :
    PSn n X (.Assign [.Name x pos'] e pos) (tAsg te (gName i)) := by
  refine ⟨fun pins s σ H D hn I h => wpAny_Assign_Name (thnT hn (he.run pins s σ H _ hn I h) fun v s1 hk q => ?_) hs⟩
  obtain ⟨y, H1, I1, r1, q1⟩ := q
  exact store_ok I1 hN hi hx r1 (fun s2 I2 => ⟨_, H1, I2, q1⟩) hf
theorem psn_while {c : Expr} {tc : TT} {tb : TS} (hp : PassesOwn (model X.prog X.w) X.A X.env X.xe) (hc : PT X c tc) (hb : PSsn n X body tb) : PSn n X (.While c body [] pos) (tWhile tc tb) := by
  refine ⟨fun pins s σ H D hn I h => ?_⟩
  obtain ⟨W, ⟨m0, w0⟩, turn⟩ := h
  refine wpAny_While (codeAny_whileLoop (fun m s' => n ≤ s'.toks ∧ ∃ σ' H', Inv X pins σ' H' s' ∧ W m σ' H') ?_ m0 ⟨hn, σ, H, I, w0⟩)
  rintro m s1 ⟨hn1, σ1, H1, I1, w1⟩
  refine wpAny_passesOwn hp (thnT hn1 (hc.run pins s1 σ1 H1 _ I1 (turn m σ1 H1 w1)) fun b s2 hn2 q2 => ?_)
  obtain ⟨H2, I2, q2⟩ := q2
  cases b with
  | true =>
    obtain ⟨N, hN, q2⟩ := q2
    rw [if_pos rfl]
    refine wpAny_passesOwn hp (thnT hn2 (hb.run pins s2 σ1 H2 _ hn2 I2 q2) fun f s3 hn3 q3 => ?_)
    cases f with
    | next =>
      obtain ⟨σ3, H3, I3, n3⟩ := q3
      obtain ⟨m', hm, w3⟩ := hN σ3 H3 n3
      exact ⟨m', hm, hn3, σ3, H3, I3, w3⟩
    | cont =>
      obtain ⟨σ3, H3, I3, n3⟩ := q3
      obtain ⟨m', hm, w3⟩ := hN σ3 H3 n3
      exact ⟨m', hm, hn3, σ3, H3, I3, w3⟩
    | brk => exact q3
    | ret v => exact q3
  | false =>
    rw [if_neg Bool.false_ne_true]
    exact wpAny_execs_nil ⟨σ1, H2, I2, q2⟩
theorem psn_for {tg iter : Expr} {wi : TI} {g : TG} {tb : TS} (hp : PassesOwn (model X.prog X.w) X.A X.env X.xe) (hc : X.calm = true) (hi : PI X tg iter wi) (hg : PG X tg g) (hb : PSsn n X body tb)
    (hs : ∀ x, foldedSetIterable iter X.env x = pure x := by intro _; rfl) : PSn n X (.For tg iter body [] pos) (tFor wi g tb) := by
  refine ⟨fun pins s σ H D hn I h => wpAny_For (thnT hn (hi.run pins s σ H _ I h) fun v s1 hn1 h1 => thnT hn1 h1 fun itv s2 hn2 h2 => ?_) hs⟩
  obtain ⟨it, fp, tn, J, H2, e, I2, T, st2, f2, W, ⟨m0, w0⟩, turn⟩ := h2
  subst e
  have stat : ∀ {H' : Hp}, (∀ b ∈ fp, H' b = none) → ∀ b ∈ fp, FpOk X pins H' b := fun hn b hb => ⟨hn b hb, (f2 b hb).2⟩
  refine codeAny_forLoop_any (fun m s' => n ≤ s'.toks ∧ ∃ i σ' H', Inv X pins σ' H' s' ∧ tn i s'.heap ∧ (∀ b ∈ fp, H' b = none) ∧ W i m σ' H') ?_ m0 ⟨hn2, 0, σ, H2, I2, st2, fun b hb => (f2 b hb).1, w0⟩
  rintro m s3 ⟨hn3, i, σ3, H3, I3, st3, fr3, w3⟩
  rcases turn i m σ3 H3 w3 with ⟨stop, qn⟩ | ⟨go, N, hN, step⟩
  · refine wpAny_passesOwn hp (thn (T.done X rfl rfl rfl hc i pins s3 σ3 H3 X.xe I3 (stat fr3) st3 stop) fun r s4 ⟨hr, I4⟩ => ?_)
    subst hr
    exact wpAny_execs_nil ⟨σ3, H3, I4, qn⟩
  · refine wpAny_passesOwn hp (thnT hn3 (T.item X rfl rfl rfl hc i pins s3 σ3 H3 X.xe I3 (stat fr3) st3 go) fun r s4 hn4 q4 => ?_)
    obtain ⟨u, hr, h4⟩ := q4
    subst hr
    refine wpAny_passesOwn hp (thnT hn4 h4 fun _ s5 hn5 q5 => ?_)
    obtain ⟨x, H5, I5, r5, y5, st5, fr5⟩ := q5
    have I5' := I5.pinned (stat fr5) (T.obj _ _ st5)
    refine wpAny_passesOwn hp (thnT hn5 (hg.run _ s5 σ3 H5 x u _ I5' r5 (step x H5 y5)) fun _ s6 hn6 q6 => ?_)
    obtain ⟨σ6, H6, I6, q6⟩ := q6
    refine wpAny_passesOwn hp (thnT hn6 (hb.run _ s6 σ6 H6 _ hn6 I6 q6) fun f s7 hn7 q7 => ?_)
    have again : ∀ {σ7 : L2.St} {H7 : Hp}, Inv X (pins ++ pinsAt fp s5.heap) σ7 H7 s7 → N σ7 H7 → ∃ m', m' < m ∧ n ≤ s7.toks ∧ ∃ i σ' H', Inv X pins σ' H' s7 ∧ tn i s7.heap ∧ (∀ b ∈ fp, H' b = none) ∧ W i m' σ' H' := fun {σ7 H7} I7 n7 => by
      obtain ⟨m', hm, w7⟩ := hN σ7 H7 n7
      have pinned : ∀ b ∈ fp, ∀ o, s5.heap.get? b = some o → s7.heap.get? b = some o ∧ H7 b = none := fun b hb o e =>
        let z := I7.pin (b, o) (List.mem_append_right _ (List.mem_append_right _ (mem_pinsAt hb e)))
        ⟨z.1, z.2.1⟩
      refine ⟨m', hm, hn7, i + 1, σ7, H7, I7.unpinned, T.keep _ _ _ st5 fun b hb o e => (pinned b hb o e).1, fun b hb => ?_, w7⟩
      obtain ⟨o, e, _⟩ := T.obj _ _ st5 b hb
      exact (pinned b hb o e).2
    cases f with
    | next => obtain ⟨σ7, H7, I7, n7⟩ := q7; exact again I7 n7
    | cont => obtain ⟨σ7, H7, I7, n7⟩ := q7; exact again I7 n7
    | brk => obtain ⟨σ7, H7, I7, q7⟩ := q7; exact ⟨σ7, H7, I7.unpinned, q7⟩
    | ret v => obtain ⟨x7, σ7, H7, I7, r7, q7⟩ := q7; exact ⟨x7, σ7, H7, I7.unpinned, r7, q7⟩
/-! arguments, displays -/
theorem pan_cons (ha : PEn n X e te) (hr : PAn n X es tr) (hs : starEach (e :: es) X.env = (false, eval e X.env) :: starEach es X.env := by rfl) : PAn n X (e :: es) (tCons te tr) := by
  refine ⟨fun pos pins s σ H Q hn I h => ?_⟩
  rw [hs]
  show wpAny _ _ (spliced ((false, eval e X.env) :: backTo pos (starEach es X.env))) _ _ s
  refine Calls.spliced_cons (thnT hn (ha.run pins s σ H _ hn I h) fun u s1 hn1 q => ?_)
  obtain ⟨x, H1, I1, r1, q1⟩ := q
  exact thn (hr.run pos pins s1 σ H1 _ hn1 I1 q1) fun us s2 ⟨xs, H2, I2, r2, q2⟩ => ⟨x :: xs, H2, I2, .cons r1 r2, q2⟩
theorem pan_star {K : PySem.W.Frag} {p : Pos} (hK : X.K = K) (he : PE X e te) (hr : PAn n X es tr) (hs : starEach (.Starred e p :: es) X.env = (true, eval e X.env) :: starEach es X.env := by rfl) : PAn n X (.Starred e p :: es) (StX.tStar K te tr) := by
  subst hK
  refine ⟨fun pos pins s σ H Q hn I h => ?_⟩
  refine PySem.W.items_star (thnT hn (he.run pins s σ H _ I h) fun v s1 hn1 q => ?_) hs
  obtain ⟨y, H1, I1, ry, a, xs, ey, hx, q⟩ := q
  subst ey
  obtain rfl : v = Value.ref a := ry
  refine star_toks hn1 (StX.star_any I1 hx fun us s2 I2 rv hn2 => ?_)
  exact thn (hr.run pos pins s2 σ H1 _ hn2 I2 q) fun ws s3 ⟨vs, H3, I3, r3, q3⟩ => ⟨xs ++ vs, H3, I3, rv.append r3, q3⟩
theorem pen_tup {x1} (h : PAn n X es ta) : PEn n X (.Tuple es x1 pos) (tTup ta) := by
  refine ⟨fun pins s σ H Q hn I hq => ?_⟩
  refine wpAny_Tuple_spliced (thn (h.run pos pins s σ H _ hn I hq) fun us s1 ⟨xs, H1, I1, r, z, q⟩ => ⟨by rw [← r.length]; exact z, ?_⟩)
  have hf : H1 s1.heap.objs.size = none := I1.hok.fresh (Nat.le_refl _)
  exact ⟨.ref s1.heap.objs.size, upd H1 s1.heap.objs.size (.tup xs), I1.laid (t' := s1.toks) (fun b u e => Heap.get?_push_of_some _ e) (Nat.le_refl _) ⟨z, us, r, ⟨_, Heap.get?_push_size _ rfl, rfl, _, rfl⟩⟩, rfl, q _ hf⟩
end
end Dl
set_option Elab.async false
set_option linter.all false
set_option maxRecDepth 100000
set_option maxHeartbeats 2000000
set_option autoImplicit false
namespace Dl
open PySem PySem.Spec PyProof.Rows L2
/-! ### defs that want tokens -/
structure FnN (n : Nat) (P : Program) (w : World) (K : PySem.W.Frag) (mg : Str → Option Value) (base : Heap) (CX : CXT) (k : Nat) (f : Addr) (fd : FuncData) (ps : List Str) (sp : Sp) : Prop where
  len : ∀ vs H Q E, sp vs H Q E → vs.length = ps.length
  run : ∀ (A : Around) (outer : List Env) (s : Shared) (H : Hp) (args : Args) (us : List Value) (vs : List V) (Q : VK) (E : XK), n ≤ s.toks → Room k A → Env0 P w K mg base A outer s H → BindsTo s fd args (ps.zip us) → Vals vs us → sp vs H Q E →
    codeAny (model P w) A (.call (.ref f) args) (CR CX outer P w H s Q E) s
theorem FnN.mono {n : Nat} {P : Program} {w : World} {K : PySem.W.Frag} {mg : Str → Option Value} {base : Heap} {CX : CXT} {j k : Nat} {f : Addr} {fd : FuncData} {ps : List Str} {sp : Sp} (F : FnN n P w K mg base CX j f fd ps sp) (h : j ≤ k) :
    FnN n P w K mg base CX k f fd ps sp := ⟨F.len, fun A outer s H args us vs Q E hn hr => F.run A outer s H args us vs Q E hn (hr.mono h)⟩
/-- a method that wants n tokens -/
structure MetN (n : Nat) (P : Program) (w : World) (K : PySem.W.Frag) (mg : Str → Option Value) (base : Heap) (CX : CXT) (k : Nat) (C : Addr) (m : Str) (ps : List Str) (sp : Sp) : Prop where
  ex : ∃ f fd, FnN n P w K mg base CX k f fd ps sp ∧ Meth K C m f ∧ Binds K fd ps []
  cl : Cls K C
section
variable {n : Nat} {X : Cx} {CX : CXT} {k : Nat} {C : Addr} {ps : List Str} {sp : Sp} {E : XK} {x m : Str} {p pos apos : Pos} {e o : Expr} {es : List Expr} {ta te : TE} {t : TA}
theorem run_fnN {pins : List (Addr × Obj)} {σ : L2.St} {H : Hp} {s : Shared} {Q : VK} {us : List Value} {vs : List V} {f : Addr} {fd : FuncData} (F : FnN n X.prog X.w X.K X.mg X.base CX k f fd ps sp) (hn : n ≤ s.toks) (hr : Room k X.A) (hb : Binds X.K fd ps []) (hx : Passes CX X E)
    (I : Inv X pins σ H s) (r : Vals vs us) (h : sp vs H Q E) : wpAny (model X.prog X.w) X.A (call (.ref f) us) (EP X pins σ Q) X.xe s := by
  have hl : us.length = ps.length := by rw [← r.length]; exact F.len _ _ _ _ h
  have hb' := hb s us I.kIn (by rw [List.append_nil]; exact hl)
  rw [List.append_nil] at hb'
  refine wpAny_call (codeAny_mono (F.run X.A X.stack s H ⟨us, []⟩ us vs Q E hn hr I.env0 hb' r h) fun r s' hq => ?_)
  cases r with
  | error e => exact hx pins σ H s e s' I hq
  | ok fl =>
    cases fl with
    | ret u => exact I.after hq
    | next => exact False.elim hq
    | brk => exact False.elim hq
    | cont => exact False.elim hq
theorem pen_met {pl : Sem Bool} (c : MetN n X.prog X.w X.K X.mg X.base CX k C m ps sp) (hr : Room k X.A) (hx : Passes CX X E) (he : PE X o ta) (ha : PA X (e :: es) t)
    (hst : starEach (e :: es) X.env = (false, eval e X.env) :: starEach es X.env := by rfl) (hpl : (backTo pos (starEach es X.env)).any (·.1) = false := by rfl)
    (ht : eval (.Call (.Attribute o m apos) (e :: es) [] pos) X.env = (do
      let ov ← eval o X.env
      standAt apos.atName
      let (f, first) ← holding [ov] (getMethod ov m pl)
      callWith pos f first (backTo pos (starEach (e :: es) X.env)) (backToKw pos (keywordEach [] X.env))) := by rfl) : PEn n X (.Call (.Attribute o m apos) (e :: es) [] pos) (tMeth C m sp [] E ta t) := by
  obtain ⟨f, fd, F, hm, hb⟩ := c.ex
  refine ⟨fun pins s σ H Q hn I h => ?_⟩
  refine PySem.W.methodCall_KW (pl := pl) (thnT hn (he.run pins s σ H _ I h) fun u s1 hn1 q => ?_) ht
  obtain ⟨x, H1, I1, rx, a, dx, fs, ex, ea, l, q⟩ := q
  subst ex
  obtain rfl : u = Value.ref a := rx
  refine getmeth_ok I1 ea c.cl hm l ?_
  refine PySem.W.callWith_K (first := [Value.ref a]) (h₀ := X.base) I.ok.mod.kin hm.kp (thnT hn1 (ha.run pos pins s1 σ H1 _ I1 q) fun us s2 hn3 q3 => ?_) hst hpl
  obtain ⟨vs, H2, I2, r, q2⟩ := q3
  rw [List.append_nil] at q2
  exact ⟨I2.kIn, run_fnN (us := .ref a :: us) (vs := .ref a :: vs) F hn3 hr hb hx I2 (.cons rfl r) q2⟩
/-! ### lacking(text, part) -/
structure Lk (P : Program) (w : World) (K : PySem.W.Frag) (mg : Str → Option Value) (base : Heap) (k : Nat) (x : Str) : Prop where
  ex : ∃ f, LackRun P w K mg base k f ∧ mg x = some (.ref f) ∧ PySem.W.keepIn K (.ref f) = true
def tLack (n : Nat) (te : TE) (i : Nat) : TE := fun σ H Q => te σ H fun x H1 => ∃ z a w c, x = .str z ∧ σ[i]? = some (some (.ref a)) ∧ RawL n H1 a w c ∧ c.length ≠ 0 ∧ z.length ≤ 1000000 ∧ Q (.str (lackS z c)) H1
theorem run_lack {pins : List (Addr × Obj)} {σ : L2.St} {H : Hp} {s : Shared} {Q : VK} {f : Addr} {z c : Str} {tz t : Tok} (F : LackRun X.prog X.w X.K X.mg X.base k f) (hr : Room k X.A) (hx : Passes CX0 X E) (I : Inv X pins σ H s) (h0 : t ≠ 0) (h1 : t < s.toks) (h2 : c.length ≠ 0) (h3 : z.length ≤ 1000000) (q : Q (.str (lackS z c)) H) :
    wpAny (model X.prog X.w) X.A (call (.ref f) [.str z tz, .str c t]) (EP X pins σ Q) X.xe s := by
  refine wpAny_call (codeAny_mono (F X.A X.stack s H z c tz t Q E hr I.env0 h0 h1 h2 h3 q) fun r s' hq => ?_)
  cases r with
  | error e => exact hx pins σ H s e s' I hq
  | ok fl =>
    cases fl with
    | ret u => exact I.after hq
    | next => exact False.elim hq
    | brk => exact False.elim hq
    | cont => exact False.elim hq
theorem pen_lack {i : Nat} {lx fx : Str} {pf pl cp qp : Pos} {j : Nat} (c : Lk X.prog X.w X.K X.mg X.base k fx) (hr : Room k X.A) (hg : Gl X fx) (hx : Passes CX0 X E) (he : PE X e te) (hN : X.N[i]? = some lx) (hv : Vis X.env.scope lx)
    (hdf : (fx == ("__debug__" : Str)) = false := by decide) (hdl : (lx == ("__debug__" : Str)) = false := by decide) (hcl : (lx == ("__classdict__" : Str)) = false := by decide)
    (hst : starEach [e, .Subscript (.Name lx pl) (.Constant (.int 1) j cp) qp] X.env = [(false, eval e X.env), (false, eval (.Subscript (.Name lx pl) (.Constant (.int 1) j cp) qp) X.env)] := by rfl) :
    PEn n X (.Call (.Name fx pf) [e, .Subscript (.Name lx pl) (.Constant (.int 1) j cp) qp] [] pos) (tLack n te i) := by
  obtain ⟨f, F, hm, hk⟩ := c.ex
  refine ⟨fun pins s σ H Q hn I h => ?_⟩
  refine wpAny_Call_Name_kw (ld_glob I hg hm ?_ hdf)
  refine PySem.W.callWith_K (h₀ := X.base) I.ok.mod.kin hk ?_ (by rw [hst]; rfl) (by rfl)
  rw [hst]
  show wpAny _ _ (spliced [(false, eval e X.env), (false, eval (.Subscript (.Name lx pl) (.Constant (.int 1) j cp) qp) X.env)]) _ _ s
  refine Calls.spliced_cons (thnT hn (he.run pins s σ H _ I h) fun u s1 hn1 q => ?_)
  obtain ⟨x, H1, I1, rx, z, a, w, c, ex, ea, ⟨o, u1, t, m, ho, oc, od, t0, tn⟩, hc, hz, q⟩ := q
  subst ex
  obtain ⟨tz, rfl⟩ := rx
  refine Calls.spliced_cons (Subscript_ (raw_name hN hv I1 ea (fun v r => ?_) hdl hcl))
  obtain rfl : v = Value.ref a := r
  refine wpAny_Constant_int ?_
  have ht : IsTup ({ s1 with toks := s1.toks + 1 } : Shared).heap a #[u1, .str c t] := by
    obtain ⟨h1, _⟩ := I1.hok a _ ho
    exact ⟨o, h1, oc, m, od⟩
  refine item_tuple ht (by decide) (by decide) (j := 1) (by rfl) rfl (Calls.spliced_nil ?_)
  have I2 : Inv X pins σ H1 { s1 with toks := s1.toks + 1 } := I1.tok _
  exact ⟨I2.kIn, run_lack F hr hx I2 t0 (Nat.lt_succ_of_lt (Nat.lt_of_lt_of_le tn hn1)) hc hz q⟩
/-- .. the part written -/
def tLackC (te : TE) (c : Str) : TE := fun σ H Q => te σ H fun x H1 => ∃ z, x = .str z ∧ z.length ≤ 1000000 ∧ Q (.str (lackS z c)) H1
theorem pen_lackC {fx c : Str} {pf cp : Pos} {j : Nat} (h1n : 1 ≤ n) (cl : Lk X.prog X.w X.K X.mg X.base k fx) (hr : Room k X.A) (hg : Gl X fx) (hx : Passes CX0 X E) (he : PE X e te) (hc : c.length ≠ 0)
    (hdf : (fx == ("__debug__" : Str)) = false := by decide)
    (hst : starEach [e, .Constant (.str c) j cp] X.env = [(false, eval e X.env), (false, eval (.Constant (.str c) j cp) X.env)] := by rfl) :
    PEn n X (.Call (.Name fx pf) [e, .Constant (.str c) j cp] [] pos) (tLackC te c) := by
  obtain ⟨f, F, hm, hk⟩ := cl.ex
  refine ⟨fun pins s σ H Q hn I h => ?_⟩
  refine wpAny_Call_Name_kw (ld_glob I hg hm ?_ hdf)
  refine PySem.W.callWith_K (h₀ := X.base) I.ok.mod.kin hk ?_ (by rw [hst]; rfl) (by rfl)
  rw [hst]
  show wpAny _ _ (spliced [(false, eval e X.env), (false, eval (.Constant (.str c) j cp) X.env)]) _ _ s
  refine Calls.spliced_cons (thnT hn (he.run pins s σ H _ I h) fun u s1 hn1 q => ?_)
  obtain ⟨x, H1, I1, rx, z, ex, hz, q⟩ := q
  subst ex
  obtain ⟨tz, rfl⟩ := rx
  refine Calls.spliced_cons (Calls.Constant_str (Calls.spliced_nil ?_))
  have I2 : Inv X pins σ H1 { s1 with toks := s1.toks + 1 } := I1.tok _
  exact ⟨I2.kIn, run_lack F hr hx I2 (Nat.ne_of_gt (Nat.lt_of_lt_of_le (Nat.lt_of_lt_of_le Nat.zero_lt_one h1n) hn1)) (Nat.lt_succ_self _) hc hz q⟩
end
end Dl
set_option Elab.async false
set_option linter.all false
set_option maxRecDepth 100000
set_option maxHeartbeats 2000000
set_option autoImplicit false
namespace Dl
open PySem PySem.Spec PyProof.Rows L2
/-- a def that wants n tokens keeps its promise -/
theorem okN {n : Nat} {P : Program} {w : World} {K : PySem.W.Frag} {mg : Str → Option Value} {base : Heap} {x qual : Str} {params : Arguments} {body : List Stmt} {scope : Scope} {f : Addr} {fd : FuncData} {CX : CXT} {N ps : List Str} {k : Nat} {R : RS}
    (F : FunD K x qual params body scope [] [] f fd) (S : FnScope N ps scope) (hlen : ∀ ds g Q, R.r ds g Q → ds.length = ps.length)
    (hbody : ∀ (cdv : Value) (A : Around) (outer : List Env) (s : Shared) (H : Hp) (E : XK), Room k (A.deeper (envOfC qual scope s.heap.objs.size f cdv)) →
      ∃ t, PSsn n (cxOf CX P w K mg base N qual scope f cdv A outer s H E) body t ∧ ∀ ds g Q, R.r ds g Q → WS t (startD N ds) g ⟨fun _ g' => Q (.v .non) g', Q, fun _ _ => False, fun _ _ => False⟩) : FnN n P w K mg base CX (k + 1) f fd ps (spR R) := by
  refine ⟨fun vs H Q E ⟨M, g, ds, c, r, h⟩ => by rw [r.length]; exact hlen _ _ _ h, fun A outer s H args us vs Q E hn0 hr e0 hb rv hsp => ?_⟩
  have hl : vs.length = ps.length := by
    obtain ⟨M, g, ds, c, r, h⟩ := hsp
    rw [r.length]; exact hlen _ _ _ h
  refine fn_raw (CX := CX) (E := E) F S hr e0 hb hl rv (fun e s' z => z) fun cdv s1 hk hr1 I hn => ?_
  obtain ⟨t, hp, ht⟩ := hbody cdv A outer s H E hr1
  obtain ⟨M, g, ds, c, r, h⟩ := hsp
  have hq : t { nx := fun _ H' => Q .non H', rt := Q } (L2.start N vs) H := ht ds g _ h M _ H (sok_start c r) _ ⟨fun e' g' σ' H' q t' s' => q _ _ t' s'.toCok rfl, fun d g' v H' q t' c' r' => q v H' t' c' r', fun _ _ _ _ z => z.elim, fun _ _ _ _ z => z.elim⟩
  refine wpAny_mono (hp.run [] s1 _ H _ (Nat.le_trans hn0 hk) I hq) (fun fl s' hs => ?_) fun e s' hs => hs
  have fin : ∀ {σ' : L2.St} {H' : Hp} {v : V} {u : Value}, Inv (cxOf CX P w K mg base N qual scope f cdv A outer s H E) [] σ' H' s' → RelV v u → Q v H' → CE outer P w H s Q u s' :=
    fun {σ' H' v u} J rv q => ⟨v, H', J.os, J.bare, J.base, J.hok, rv, q⟩
  cases fl with
  | ret u =>
    obtain ⟨v, σ', H', J, rv, q⟩ := hs
    exact .inl ⟨u, rfl, fin J rv q⟩
  | next =>
    obtain ⟨σ', H', J, q⟩ := hs
    exact .inr ⟨rfl, fin (v := V.non) (u := Value.none) J rfl q⟩
  | brk =>
    obtain ⟨_, _, _, q⟩ := hs
    exact False.elim q
  | cont =>
    obtain ⟨_, _, _, q⟩ := hs
    exact False.elim q
section
variable {n : Nat} {env : DEnv} {g : G} {te : TE} {Ψ : D → G → Prop}
theorem ye_lack {i : Nat} {w c : Str} (hi : env[i]? = some (some (.raw n w c))) (hc : c.length ≠ 0) (h : YE te env g fun d g1 => ∃ z, d = .v (.str z) ∧ z.length ≤ 1000000 ∧ Ψ (.v (.str (lackS z c))) g1) : YE (tLack n te i) env g Ψ := fun M σ H s Q k => by
  obtain ⟨v, hv, a, e, nM, hr⟩ := s.slots i _ hi
  subst e
  refine h M σ H s _ fun d g1 u H1 hh t1 c1 r1 => ?_
  obtain ⟨z, ed, hz, q⟩ := hh
  subst ed
  have hr1 : RawL n H1 a w c := hr.keep fun o e => (t1.leq s.dom).st a o nM e
  exact ⟨z, a, w, c, r1, hv, hr1, hc, hz, k _ g1 _ H1 q t1 c1 rfl⟩
theorem ye_lackC {c : Str} (h : YE te env g fun d g1 => ∃ z, d = .v (.str z) ∧ z.length ≤ 1000000 ∧ Ψ (.v (.str (lackS z c))) g1) : YE (tLackC te c) env g Ψ := fun M σ H s Q k => by
  refine h M σ H s _ fun d g1 u H1 hh t1 c1 r1 => ?_
  obtain ⟨z, ed, hz, q⟩ := hh
  subst ed
  exact ⟨z, r1, hz, k _ g1 _ H1 q t1 c1 rfl⟩
end
end Dl
set_option Elab.async false
set_option linter.all false
set_option maxRecDepth 100000
set_option maxHeartbeats 2000000
set_option autoImplicit false
namespace Dl
open PySem PySem.Spec PyProof.Rows L2
/-! ### a name stored, its value known with its token -/
theorem store_raw {X : Cx} {pins : List (Addr × Obj)} {σ : L2.St} {H : Hp} {s : Shared} {M : Model} {A : Around} {E : Value → Shared → Prop} {i : Nat} {x : Str} {v : V} {u : Value} {Q : Unit → Shared → Prop} (I : Inv X pins σ H s) (hN : X.N.Nodup) (hi : X.N[i]? = some x) (hk : X.env.scope.names.lookup x = some .local) (r : RelV v u)
    (h : ∀ s', Inv X pins (σ.set i (some v)) H s' → s'.toks = s.toks + 1 → (∃ m, s'.heap.Ns X.env.locals m ∧ m x = some u) → (∀ {it : Addr} {ty : String} {y : Str} {ty' : Tok} {n : Nat}, it ≠ X.env.locals → s.heap.IsStrIter it ty y ty' n → s'.heap.IsStrIter it ty y ty' n) → Q () s') : wpAny M A (storeName X.env x u) Q E s := by
  obtain ⟨m, hn, hl⟩ := id I.loc
  have hcls : (X.env.scope.kind == .class || (X.env.scope.kind == .module && X.env.locals != X.env.globals)) = false := by rw [I.ok.kind]; rfl
  have hiσ : i < σ.length := by rw [I.len]; exact (List.getElem?_eq_some_iff.mp hi).1
  refine wpAny_storeName_local hk hn (fun h' hn' hs => ?_) hcls
  have keep : ∀ b o, b ≠ X.env.locals → s.heap.get? b = some o → h'.get? b = some o := fun b o hb e => (hs.2 b hb).trans e
  obtain ⟨oL, _, _, hoL, _⟩ := id hn
  have old : ∀ b o, X.s_0.heap.get? b = some o → b ≠ X.env.locals := fun b o e => Nat.ne_of_lt (Nat.lt_of_lt_of_le (Heap.lt_size e) I.ok.above)
  have hok : HOk X.prog X.w H h' := fun b ob e => by
    refine (I.hok b ob e).stay (fun c w' hc q => keep c w' ?_ q) (fun _ q => q) fun _ _ q => q
    rintro rfl
    rcases hc with rfl | hc
    · rw [I.free] at e; cases e
    · rw [I.free] at hc; cases hc
  refine h _ ⟨I.ok, I.os, I.bare, ⟨fun b o e n hb hx => keep b o (old b o e) (I.base.keep b o e n hb hx), fun b o e n hb hx => ?_, I.base.free, fun b o e hx => ?_, I.base.tups, I.base.frzs, I.base.tbls⟩, ⟨_, hn', fun j y v' e1 e2 e3 => ?_⟩, fun y c e => ?_, I.free, I.freeC, fun p hp => ?_, hok, by simpa using I.len⟩ rfl ⟨_, hn', by simp⟩ (fun {it ty y ty' n} hne ⟨o, e, r⟩ => ⟨o, keep it o hne e, r⟩)
  · obtain ⟨sl, e1⟩ := I.base.slot b o e n hb hx
    exact ⟨sl, keep b _ (old b o e) e1⟩
  · obtain ⟨o', e1⟩ := I.base.there b o e hx
    exact ⟨o', keep b o' (old b o e) e1⟩
  · by_cases hj : j = i
    · subst hj
      rw [hi] at e1; cases e1
      rw [List.getElem?_set_self hiσ] at e2
      cases e2
      exact ⟨u, r, .inl ⟨hk, by simp⟩⟩
    · rw [List.getElem?_set_ne (Ne.symm hj)] at e2
      obtain ⟨u', r', q⟩ := hl j y v' e1 e2 e3
      refine ⟨u', r', ?_⟩
      rcases q with ⟨k, e⟩ | ⟨k, c, e, z⟩
      · refine .inl ⟨k, ?_⟩
        have : y ≠ x := fun e => hj (nodup_ix hN e1 (e ▸ hi))
        simp [this, e]
      · exact .inr ⟨k, c, e, z.sameBut hs (I.cne y c e)⟩
  · obtain ⟨w', z⟩ := I.cell y c e
    exact ⟨w', z.sameBut hs (I.cne y c e)⟩
  · obtain ⟨e, n, ne, nf, d⟩ := I.pin p hp
    exact ⟨keep p.1 p.2 ne e, n, ne, nf, d⟩
end Dl
set_option Elab.async false
set_option linter.all false
set_option maxRecDepth 100000
set_option maxHeartbeats 2000000
set_option autoImplicit false
namespace Dl
open PySem PySem.Spec PyProof.Rows L2
/-! ### [(word, letter) for word in words for letter in text]: the letters' tokens known -/
abbrev Ext (H H' : Hp) : Prop := ∀ a o, H a = some o → H' a = some o
theorem sqT_ext {K : PySem.W.Frag} {H H' : Hp} {a : Addr} {xs : List V} (h : Ext H H') (q : SqT K H a xs) : SqT K H' a xs := by
  rcases q with (q | ⟨o, q⟩) | q
  · exact .inl (.inl (h _ _ q))
  · exact .inl (.inr ⟨o, h _ _ q⟩)
  · exact .inr q
def pairsL (ws : List Str) (z : Str) : List (Str × Str) := (ws.map fun w => z.cps.toList.map fun c => (w, (⟨#[c]⟩ : Str))).flatten
def LL (H H' : Hp) (n : Nat) (D : Addr) (ps : List (Str × Str)) : Prop := Ext H H' ∧ H D = none ∧ ∃ as : List Addr, H' D = some (.lst (as.map V.ref)) ∧ Paired (fun a p => H a = none ∧ a ≠ D ∧ RawL n H' a p.1 p.2) as ps
theorem RawL.le {n n' : Nat} {H : Hp} {a : Addr} {w c : Str} (h : RawL n H a w c) (k : n ≤ n') : RawL n' H a w c := let ⟨o, u, t, m, e, r1, r2, r3, r4⟩ := h; ⟨o, u, t, m, e, r1, r2, r3, Nat.lt_of_lt_of_le r4 k⟩
theorem paired_imp {α β : Type} {F G : α → β → Prop} : ∀ {l : List α} {m : List β}, Paired F l m → (∀ a b, F a b → G a b) → Paired G l m
  | _, _, .nil, _ => .nil
  | _, _, .cons r t, f => .cons (f _ _ r) (paired_imp t f)
theorem paired_app {α β : Type} {F : α → β → Prop} : ∀ {l : List α} {m : List β} {l' : List α} {m' : List β}, Paired F l m → Paired F l' m' → Paired F (l ++ l') (m ++ m')
  | _, _, _, _, .nil, h => h
  | _, _, _, _, .cons r t, h => .cons r (paired_app t h)
theorem LL.le {H H' : Hp} {n n' : Nat} {D : Addr} {ps : List (Str × Str)} (h : LL H H' n D ps) (k : n ≤ n') : LL H H' n' D ps :=
  let ⟨h1, h2, as, h3, h4⟩ := h; ⟨h1, h2, as, h3, paired_imp h4 fun _ _ x => ⟨x.1, x.2.1, x.2.2.le k⟩⟩
theorem LL.len {H H' : Hp} {n : Nat} {D : Addr} {ps : List (Str × Str)} (h : LL H H' n D ps) : ∃ us : List V, H' D = some (.lst us) ∧ us.length = ps.length :=
  let ⟨_, _, as, h3, h4⟩ := h; ⟨_, h3, by rw [List.length_map]; exact Paired.length h4⟩
theorem LL.start {H : Hp} {n : Nat} {D : Addr} (h : H D = none) : LL H (upd H D (.lst [])) n D [] := ⟨fun a o e => by rw [upd_ne (ne_of_none e h)]; exact e, h, [], upd_same, .nil⟩
theorem LL.step {H H' : Hp} {n : Nat} {D a : Addr} {ps : List (Str × Str)} {w c : Str} {o : Obj} {us : List V} (h : LL H H' n D ps) (hD : H' D = some (.lst us)) (ha : H' a = none) (r : RawL n (upd H' a (.frz o (.tup [.str w, .str c]))) a w c) :
    LL H (upd (upd H' a (.frz o (.tup [.str w, .str c]))) D (.lst (us ++ [.ref a]))) n D (ps ++ [(w, c)]) := by
  obtain ⟨h1, h2, as, h3, h4⟩ := h
  have aD : a ≠ D := by rintro rfl; rw [hD] at ha; cases ha
  rw [hD] at h3
  cases h3
  refine ⟨fun b ob e => ?_, h2, as ++ [a], ?_, paired_app (paired_imp h4 fun b p x => ⟨x.1, x.2.1, ?_⟩) (.cons ⟨?_, aD, ?_⟩ .nil)⟩
  · rw [upd_ne (by rintro rfl; rw [h2] at e; cases e), upd_ne (by rintro rfl; have := h1 _ _ e; rw [ha] at this; cases this)]
    exact h1 b ob e
  · rw [upd_same, List.map_append]; rfl
  · refine x.2.2.keep fun ob e => ?_
    rw [upd_ne x.2.1, upd_ne (by rintro rfl; rw [ha] at e; cases e)]
    exact e
  · cases e : H a with
    | none => rfl
    | some ob =>
      have := h1 _ _ e
      rw [ha] at this; cases this
  · exact r.keep fun ob e => by rw [upd_ne aD]; exact e
theorem pairsL_snoc {ws : List Str} {z : Str} {i : Nat} {w : Str} (h : ws[i]? = some w) : pairsL (ws.take (i + 1)) z = pairsL (ws.take i) z ++ z.cps.toList.map fun c => (w, (⟨#[c]⟩ : Str)) := by
  unfold pairsL
  rw [take_succ' h, List.map_append, List.flatten_append]
  simp
end Dl
set_option Elab.async false
set_option linter.all false
set_option maxRecDepth 100000
set_option maxHeartbeats 4000000
set_option autoImplicit false
namespace Dl
open PySem PySem.Spec PyProof.Rows L2
section
variable {X : Cx} {pins : List (Addr × Obj)} {σ : L2.St} {H : Hp} {s : Shared} {wx lx : Str} {iw il : Nat} {iter iter1 : Expr} {scope : Scope} {own : List (Str × Nat)} {pos pos' p1 p2 q1 q2 tp : Pos} {k : Nat} {wi : TI} {te1 : TE} {words : List Str} {z : Str}
theorem get_none {σ : L2.St} {il i : Nat} {v : V} (e : (σ.set il none)[i]? = some (some v)) : σ[i]? = some (some v) := by
  by_cases hj : il = i
  · subst hj
    by_cases hlt : il < σ.length
    · rw [List.getElem?_set_self hlt] at e; cases e
    · rw [List.getElem?_eq_none (by simpa using hlt)] at e; cases e
  · rw [List.getElem?_set_ne hj] at e; exact e
/-- the element (word, letter), the letter's value known -/
theorem ll_elt {Xb : Cx} {pins : List (Addr × Obj)} {σ : L2.St} {H : Hp} {s : Shared} {w c : Str} {t : Tok} {n : Nat} {E : Value → Shared → Prop} {Q : Value → Shared → Prop} (I : Inv Xb pins σ H s) (hN : Xb.N[iw]? = some wx) (hv : Vis Xb.env.scope wx) (hl : Xb.env.scope.names.lookup lx = some .local) (hσ : σ[iw]? = some (some (.str w)))
    (hm : ∃ m, s.heap.Ns Xb.env.locals m ∧ m lx = some (.str c t)) (t0 : t ≠ 0) (tn : t < n)
    (hst : starEach [.Name wx p1, .Name lx p2] Xb.env = [(false, eval (.Name wx p1) Xb.env), (false, eval (.Name lx p2) Xb.env)])
    (dw : (wx == ("__debug__" : Str)) = false) (dc : (wx == ("__classdict__" : Str)) = false) (dl : (lx == ("__debug__" : Str)) = false)
    (hQ : ∀ (a : Addr) (o : Obj) s', H a = none → Inv Xb pins σ (upd H a (.frz o (.tup [.str w, .str c]))) s' → RawL n (upd H a (.frz o (.tup [.str w, .str c]))) a w c → s'.toks = s.toks → Q (.ref a) s') :
    wpAny (model Xb.prog Xb.w) Xb.A (eval (.Tuple [.Name wx p1, .Name lx p2] k tp) Xb.env) Q E s := by
  refine wpAny_Tuple_spliced ?_
  rw [hst]
  show wpAny _ _ (spliced [(false, eval (.Name wx p1) Xb.env), (false, eval (.Name lx p2) Xb.env)]) _ _ s
  refine Calls.spliced_cons (raw_name hN hv I hσ (fun u r => ?_) dw dc)
  obtain ⟨m, hn, hml⟩ := hm
  refine Calls.spliced_cons (wpAny_Name (wpAny_loadName_local I.ok.kind hl hn hml ?_) dl)
  refine Calls.spliced_nil ⟨by show 2 ≤ sizeLine; decide, ?_⟩
  have hf : H s.heap.objs.size = none := I.hok.fresh (Nat.le_refl _)
  have hget : (s.heap.push { cls := .type "tuple", data := .seq [u, Value.str c t].toArray }).get? s.heap.objs.size = some { cls := .type "tuple", data := .seq [u, Value.str c t].toArray } := Heap.get?_push_size _ rfl
  refine hQ s.heap.objs.size { cls := .type "tuple", data := .seq [u, Value.str c t].toArray } _ hf (I.laid (t' := s.toks) (fun b u e => Heap.get?_push_of_some _ e) (Nat.le_refl _) ?_) ⟨_, u, t, 0, upd_same, rfl, rfl, t0, tn⟩ rfl
  exact ⟨hget, by show 2 ≤ sizeLine; decide, [u, .str c t], .cons r (.cons ⟨t, rfl⟩ .nil), ⟨_, hget, rfl, _, rfl⟩⟩
/-- the inner loop: over the signs of z -/
theorem ll_inner {Xb : Cx} {pins : List (Addr × Obj)} {σ : L2.St} {H0 H : Hp} {s : Shared} {w : Str} {it D : Addr} {tz : Tok} {P0 : List (Str × Str)} {R : Result → Shared → Prop} {scope : Scope}
    (hc : Xb.calm = true) (hN : Xb.N.Nodup) (ha : z.cps.all (· < 128) = true) (hz : z.cps.size ≤ 1000) (hP : P0.length ≤ 100000)
    (hiw : Xb.N[iw]? = some wx) (hil : Xb.N[il]? = some lx) (hne : iw ≠ il) (hvw : Vis Xb.env.scope wx) (hl : Xb.env.scope.names.lookup lx = some .local) (hσ : σ[iw]? = some (some (.str w))) 
    (hst : starEach [.Name wx p1, .Name lx p2] Xb.env = [(false, eval (.Name wx p1) Xb.env), (false, eval (.Name lx p2) Xb.env)])
    (dw : (wx == ("__debug__" : Str)) = false) (dc : (wx == ("__classdict__" : Str)) = false) (dl : (lx == ("__debug__" : Str)) = false)
    (hi : ∀ H', H' it = none → FpOk Xb pins H' it) (hi0 : H it = none) (I : Inv Xb pins σ H s) (st : s.heap.IsStrIter it "str_ascii_iterator" z tz 0) (h1 : 1 ≤ s.toks) (hL : LL H0 H s.toks D P0)
    (hR : ∀ H' s', Inv Xb pins (σ.set il none) H' s' → 1 ≤ s'.toks → LL H0 H' s'.toks D (P0 ++ z.cps.toList.map fun c => (w, (⟨#[c]⟩ : Str))) → R (.ok .next) s') :
    codeAny (model Xb.prog Xb.w) Xb.A (.compLoop (.ListComp (.Tuple [.Name wx p1, .Name lx p2] k tp) [⟨.Name wx q1, iter, [], 0⟩, ⟨.Name lx q2, iter1, [], 0⟩] scope pos) 1 (.ref it) (.ref D) Xb.env) R s := by
  refine compLoop2_in (fun m s' => ∃ j H', j ≤ z.cps.size ∧ m = z.cps.size - j ∧ Inv Xb pins (σ.set il none) H' s' ∧ s'.heap.IsStrIter it "str_ascii_iterator" z tz j ∧ H' it = none ∧ 1 ≤ s'.toks ∧ LL H0 H' s'.toks D (P0 ++ (z.cps.toList.take j).map fun c => (w, (⟨#[c]⟩ : Str)))) ?_ z.cps.size
    ⟨0, H, Nat.zero_le _, rfl, I.weak (by simp) (fun i v e => get_none e), st, hi0, h1, by simpa using hL⟩
  rintro m s1 ⟨j, H1, hj, rfl, I1, st1, n1, k1, L1⟩
  by_cases hlt : j < z.cps.size
  · have hcx : z.cps[j]? = some z.cps[j] := by simp [hlt]
    refine wpAny_pyNext_ascii_item st1 hcx fun h' st2 sb => ?_
    obtain ⟨f0, f1, f2, f3, f4, f5⟩ := hi H1 n1
    have I2 : Inv Xb pins (σ.set il none) H1 { s1 with heap := h', toks := s1.toks + 1 } := I1.turned (fun b o hb e => (sb.2 b hb).trans e) f0 f1 f3 f4 f5
    obtain ⟨oi, e, cc, dd⟩ := id st2
    refine go_of (s := { s1 with heap := h', toks := s1.toks + 1 }) e cc dd (by decide) ?_
    refine wpAny_assign_Name (store_raw I2 hN hil hl (v := .str ⟨#[z.cps[j]]⟩) ⟨_, rfl⟩ fun s3 I3 k3 hm3 hs3 => ?_)
    refine wpAny_tests_nil ?_
    rw [if_pos rfl]
    have k3' : s3.toks = s1.toks + 1 + 1 := k3
    have hσ3 : ((σ.set il none).set il (some (.str ⟨#[z.cps[j]]⟩)))[iw]? = some (some (.str w)) := by
      rw [List.getElem?_set_ne (Ne.symm hne), List.getElem?_set_ne (Ne.symm hne)]; exact hσ
    have st3 : s3.heap.IsStrIter it "str_ascii_iterator" z tz (j + 1) := hs3 f1 st2
    have I3' := I3.pinned (fp := [it]) (fun b hb => by rw [List.mem_singleton.mp hb]; exact hi H1 n1) (fun b hb => by
      rw [List.mem_singleton.mp hb]
      obtain ⟨o, e, _, d⟩ := st3
      exact ⟨o, e, fun v z => by rw [d] at z; cases z⟩)
    refine ll_elt I3' hiw hvw hl hσ3 hm3 (n := s3.toks) (Nat.ne_of_gt (Nat.lt_of_lt_of_le Nat.zero_lt_one k1)) (by rw [k3']; exact Nat.lt_succ_of_lt (Nat.lt_succ_self _)) hst dw dc dl fun a o s4 ha4 I4 r4 k4 => ?_
    have L3 := L1.le (n' := s3.toks) (by rw [k3']; omega)
    obtain ⟨us, hD, hul⟩ := L3.len
    have aD : a ≠ D := by rintro rfl; rw [hD] at ha4; cases ha4
    have hD4 : (upd H1 a (.frz o (.tup [.str w, .str ⟨#[z.cps[j]]⟩]))) D = some (.lst us) := by rw [upd_ne (Ne.symm aD)]; exact hD
    have itD : it ≠ D := by rintro rfl; rw [hD] at n1; cases n1
    have ita : it ≠ a := by
      rintro rfl
      obtain ⟨oi, e, cc, dd⟩ := id st3
      have := (I4.hok it _ upd_same)
      obtain ⟨h5, _⟩ := this
      have p := I4.pin (it, oi) (List.mem_append_right _ (List.mem_append_right _ (mem_pinsAt (fp := [it]) (by simp) e)))
      rw [upd_same] at p
      cases p.2.1
    refine thnT (n := s3.toks) (by rw [k4]; exact Nat.le_refl _) (app_ok (X := Xb) (Q := fun _ s5 => Inv Xb (pins ++ pinsAt [it] s3.heap) ((σ.set il none).set il (some (.str ⟨#[z.cps[j]]⟩))) (upd (upd H1 a (.frz o (.tup [.str w, .str ⟨#[z.cps[j]]⟩]))) D (.lst (us ++ [.ref a]))) s5) I4 hD4 ?_ (y := .ref a) rfl fun s5 I5 => I5) fun _ s5 k5 I5 => ?_
    · rw [hul, sizeLine_eq, List.length_append, List.length_map, List.length_take]
      have := Nat.min_le_left j z.cps.toList.length
      omega
    have st5 : s5.heap.IsStrIter it "str_ascii_iterator" z tz (j + 1) := by
      obtain ⟨oi, e, cc, dd⟩ := id st3
      have p := I5.pin (it, oi) (List.mem_append_right _ (List.mem_append_right _ (mem_pinsAt (fp := [it]) (by simp) e)))
      exact ⟨oi, p.1, cc, dd⟩
    refine ⟨z.cps.size - (j + 1), by omega, j + 1, _, hlt, rfl, I5.unpinned.weak (by simp) (fun i v e => ?_), st5, ?_, Nat.le_trans (by rw [k3']; omega) k5, ?_⟩
    · by_cases hj2 : il = i
      · subst hj2
        by_cases hl2 : il < σ.length
        · rw [List.getElem?_set_self hl2] at e; cases e
        · rw [List.getElem?_eq_none (by simpa using hl2)] at e; cases e
      · rw [List.getElem?_set_ne hj2, ]; exact e
    · rw [upd_ne itD, upd_ne ita]; exact n1
    · have L5 := (L3.step hD ha4 r4).le (n' := s5.toks) k5
      have e2 : (z.cps.toList.take (j + 1)).map (fun c => (w, (⟨#[c]⟩ : Str))) = (z.cps.toList.take j).map (fun c => (w, (⟨#[c]⟩ : Str))) ++ [(w, ⟨#[z.cps[j]]⟩)] := by
        rw [take_succ' (x := z.cps[j]) (by simpa using hcx), List.map_append]; rfl
      rw [e2, ← List.append_assoc]
      exact L5
  · have ej : j = z.cps.size := by omega
    subst ej
    refine wpAny_pyNext_ascii_end (I1.ok.hd hc) st1 (by simp) fun h' eb => ?_
    obtain ⟨f0, f1, f2, f3, f4, f5⟩ := hi H1 n1
    refine hR H1 _ (I1.turned (t' := s1.toks) (fun b o hb e => eb b o hb e) f0 f1 f3 f4 f5) k1 ?_
    rw [List.take_of_length_le (by simp)] at L1
    exact L1
end
end Dl
set_option Elab.async false
set_option linter.all false
set_option maxRecDepth 100000
set_option maxHeartbeats 4000000
set_option autoImplicit false
namespace Dl
open PySem PySem.Spec PyProof.Rows L2
theorem thnTF {α : Type} {t : Sem α} {Q Q' : α → Shared → Prop} {E : Value → Shared → Prop} {M : Model} {A : Around} {s : Shared} {n : Nat} (hn : n ≤ s.toks) (h : wpAny M A t Q (fun _ _ => False) s) (k : ∀ a s', n ≤ s'.toks → Q a s' → Q' a s') : wpAny M A t Q' E s :=
  wpAny_mono (wpAny_toks_of hn h) (fun a s' x => k a s' x.1 x.2) fun _ _ x => x.2.elim
theorem pairsL_len {ws : List Str} {z : Str} : (pairsL ws z).length = ws.length * z.cps.size := by
  unfold pairsL
  induction ws with
  | nil => simp
  | cons w ws ih => rw [List.map_cons, List.flatten_cons, List.length_append, ih, List.length_map, List.length_cons, Nat.succ_mul, Array.length_toList]; omega
section
variable {X : Cx} {pins : List (Addr × Obj)} {σ : L2.St} {H : Hp} {s : Shared} {wx lx : Str} {iw il : Nat} {iter iter1 : Expr} {scope : Scope} {own : List (Str × Nat)} {pos pos' p1 p2 q1 q2 tp : Pos} {k : Nat} {wi : TI} {te1 : TE} {words : List Str} {z : Str}
theorem ll_core {Q : Value → Shared → Prop} (hc : X.calm = true) (hN : X.N.Nodup) (I : Inv X pins σ H s) (hi : PI X (.Name wx q1) iter wi) (ok : BlkOk X.N X.env.scope scope own)
    (hiw : X.N[iw]? = some wx) (hil : X.N[il]? = some lx) (how : iw ∈ own.map (·.2)) (hol : il ∈ own.map (·.2)) (hne : iw ≠ il) (hlw : scope.names.lookup wx = some .local) (hll : scope.names.lookup lx = some .local)
    (ha : z.cps.all (· < 128) = true) (hz : z.cps.size ≤ 100) (hwn : words.length ≤ 100)
    (he1 : ∀ (s : Shared) (H : Hp) (C : Addr) (cl : List (Str × Addr)) (fp : List Addr), PE (X.blk s H scope (compEnvC scope cl C X.env) fp) iter1 te1)
    (hs : ∀ x, foldedSetIterable iter X.env x = pure x) (hs1 : ∀ env x, foldedSetIterable iter1 env x = pure x)
    (hst : ∀ env, starEach [.Name wx p1, .Name lx p2] env = [(false, eval (.Name wx p1) env), (false, eval (.Name lx p2) env)])
    (dw : (wx == ("__debug__" : Str)) = false) (dc : (wx == ("__classdict__" : Str)) = false) (dl : (lx == ("__debug__" : Str)) = false)
    (hw0 : wi σ H fun J H1 => Ext H H1 ∧ ∃ a0, J = Itt X.K a0 ∧ SqT X.K H1 a0 (words.map V.str))
    (hw1 : ∀ w H', Ext H H' → te1 ((wipe σ (own.map (·.2))).set iw (some (.str w))) H' fun x H'' => x = .str z ∧ H'' = H')
    (hQ : ∀ D H' s', Inv X pins σ H' s' → LL H H' s'.toks D (pairsL words z) → Q (.ref D) s') :
    wpAny (model X.prog X.w) X.A (eval (.ListComp (.Tuple [.Name wx p1, .Name lx p2] k tp) [⟨.Name wx q1, iter, [], 0⟩, ⟨.Name lx q2, iter1, [], 0⟩] scope pos) X.env) Q X.xe s := by
  rw [eval_ListComp]
  have hfree : ∀ y ∈ scope.names, y.2 = .free → ∃ c, X.env.cells.lookup y.1 = some c := fun y hy e => by
    rcases ok.free y hy e with k | k
    · exact I.ok.has _ (.inl k)
    · exact I.ok.has _ (.inr k)
  refine wpAny_comprehension_free (use := none) rfl hs (closure_ok hfree) ok.kind (fun y hy e => by rw [ok.uniq y hy, e])
    (thn (hi.run pins s σ H _ I hw0) fun xv s1 hx => thn hx fun itv s2 h2 => ?_)
  obtain ⟨it, fp, tn, J, H2, e, I2, T, st2, f2, hE2, a0, eJ, sq2⟩ := h2
  subst e eJ
  refine wpAny_newObj_type (newEnv_comp ?_) (by show 0 ≤ sizeLine; decide)
  generalize hD : s2.heap.objs.size = D
  have hDn : H2 D = none := I2.hok.fresh (Nat.le_of_eq hD)
  generalize hs3 : ({ s2 with heap := s2.heap.push { cls := .type "list", data := .seq ([] : List Value).toArray } } : Shared) = s3
  have I3 : Inv X pins σ (upd H2 D (.lst [])) s3 := by
    rw [← hs3]
    refine I2.laid (t' := s2.toks) (fun b o e => Heap.get?_push_of_some _ e) (Nat.le_of_eq hD) ⟨Nat.zero_le _, [], 0, .nil, ?_⟩
    rw [← hD]
    exact Heap.get?_push_size _ rfl
  have h3 : s3.heap = s2.heap.push { cls := .type "list", data := .seq ([] : List Value).toArray } := by rw [← hs3]
  have sz : ∀ b ∈ fp, b < s2.heap.objs.size := fun b hb => by
    obtain ⟨o, e, _⟩ := T.obj _ _ st2 b hb
    exact Heap.lt_size e
  have f3 : ∀ b ∈ fp, FpOk X pins (upd H2 D (.lst [])) b ∧ b < s3.heap.objs.size := fun b hb => by
    have hlt := sz b hb
    refine ⟨⟨?_, (f2 b hb).2⟩, by rw [h3, Heap.size_push]; exact Nat.lt_succ_of_lt hlt⟩
    rw [upd_ne (by rw [← hD]; exact Nat.ne_of_lt hlt)]
    exact (f2 b hb).1
  have st3 : tn 0 s3.heap := T.keep _ _ _ st2 fun b _ o e => by rw [h3]; exact Heap.get?_push_of_some _ e
  have I4 := block_start I3 ok hN f3
  have pe1 := he1 s3 (upd H2 D (.lst [])) s3.heap.objs.size (cellsFrom (s3.heap.objs.size + 1) scope.names (cloFrom X.env.cells scope.names [])) fp
  show codeAny _ _ (.compStart (.ListComp (.Tuple [.Name wx p1, .Name lx p2] k tp) [⟨.Name wx q1, iter, [], 0⟩, ⟨.Name lx q2, iter1, [], 0⟩] scope pos) 0 (.ref it) (.ref D) (compEnvC scope (cellsFrom (s3.heap.objs.size + 1) scope.names (cloFrom X.env.cells scope.names [])) s3.heap.objs.size X.env)) (compPost (model X.prog X.w) X.A X.xe none Q (.ref D) s3.heap.objs.size) { s3 with heap := pushCells (s3.heap.push { cls := .type "dict", data := .dict #[] }) scope.names }
  have nfp : ∀ b ∈ fp, (upd H2 D (.lst [])) b = none := fun b hb => (f3 b hb).1.1
  have lw : (compEnvC scope (cellsFrom (s3.heap.objs.size + 1) scope.names (cloFrom X.env.cells scope.names [])) s3.heap.objs.size X.env).scope.names.lookup wx = some .local := lookup_relabel_local hlw
  have ll : (compEnvC scope (cellsFrom (s3.heap.objs.size + 1) scope.names (cloFrom X.env.cells scope.names [])) s3.heap.objs.size X.env).scope.names.lookup lx = some .local := lookup_relabel_local hll
  generalize hce : compEnvC scope (cellsFrom (s3.heap.objs.size + 1) scope.names (cloFrom X.env.cells scope.names [])) s3.heap.objs.size X.env = ce at I4 pe1 lw ll ⊢
  have cL : ce.locals = s3.heap.objs.size := by subst hce; rfl
  have L3 : LL H2 (upd H2 D (.lst [])) 0 D (pairsL (words.take 0) z) := .start hDn
  generalize hH3 : upd H2 D (.lst []) = H3 at I3 I4 pe1 nfp f3 L3
  generalize hs4 : ({ s3 with heap := pushCells (s3.heap.push { cls := .type "dict", data := .dict #[] }) scope.names } : Shared) = s4 at I4 ⊢
  have st4 : tn 0 s4.heap := T.keep _ _ _ st3 fun b _ o e => by rw [← hs4]; exact pushCells_keeps _ _ _ _ (Heap.get?_push_of_some _ e)
  have stat : ∀ {σ' : L2.St} {H' : Hp} {s' : Shared}, Inv (X.blk s3 H3 scope ce fp) [] σ' H' s' → (∀ b ∈ fp, H' b = none) → ∀ b ∈ fp, FpOk (X.blk s3 H3 scope ce fp) [] H' b := fun {σ' H' s'} I' hn b hb =>
    ⟨hn b hb, (I'.ok.exf b hb).1, I'.ok.exfs b hb, .inl hb, fun x c e => (I'.ok.exf b hb).2 x c e, fun p hp => absurd (show p ∈ ([] : List (Addr × Obj)) ++ [] from hp) (by simp)⟩
  have loop : codeAny (model X.prog X.w) X.A (.compLoop (.ListComp (.Tuple [.Name wx p1, .Name lx p2] k tp) [⟨.Name wx q1, iter, [], 0⟩, ⟨.Name lx q2, iter1, [], 0⟩] scope pos) 0 (.ref it) (.ref D) ce) (compPost (model X.prog X.w) X.A X.xe none Q (.ref D) s3.heap.objs.size) s4 := by
    refine compLoop2_out (hs1 ce) (fun n s' => ∃ i H', i ≤ words.length ∧ n = words.length - i ∧ Inv (X.blk s3 H3 scope ce fp) [] (wipe σ (own.map (·.2))) H' s' ∧ tn i s'.heap ∧ (∀ b ∈ fp, H' b = none) ∧ LL H2 H' s'.toks D (pairsL (words.take i) z)) ?_ words.length ⟨0, H3, Nat.zero_le _, rfl, I4, st4, nfp, L3.le (Nat.zero_le _)⟩
    rintro n s5 ⟨i, H5, hiw2, rfl, I5, st5, n5, L5⟩
    have sq5 : SqT X.K H5 a0 (words.map V.str) := sqT_ext L5.1 sq2
    by_cases hlt : i < words.length
    · have hwi : words[i]? = some words[i] := by simp [hlt]
      have ti := T.item (X.blk s3 H3 scope ce fp) rfl rfl rfl hc i [] s5 _ H5 (fun _ _ => False) I5 (stat I5 n5) st5 ⟨_, .str words[i], sq5, by rw [List.getElem?_map, hwi]; rfl⟩
      refine thnTF (Nat.le_refl _) ti fun r s6 k6 h6 => ?_
      obtain ⟨u, hr, h6⟩ := h6
      subst hr
      refine thnTF k6 h6 fun _ s7 k7 h7 => ?_
      obtain ⟨x, H7, I7, r7, ⟨e7, y7⟩, st7, n7⟩ := h7
      have ex : x = .str words[i] := by
        have := y7 _ sq5
        rw [List.getElem?_map, hwi] at this
        cases this; rfl
      subst ex
      have I7' := I7.pinned (stat I7 n7) (T.obj _ _ st7)
      refine wpAny_assign_Name (store_raw (X := X.blk s3 H3 scope ce fp) I7' hN hiw lw r7 fun s8 I8 k8 _ _ => ?_)
      refine wpAny_tests_nil ?_
      rw [if_pos rfl]
      have k8' : s8.toks = s7.toks + 1 := k8
      refine thnTF (n := s8.toks) (Nat.le_refl _) (pe1.run _ s8 _ H7 _ I8 (hw1 words[i] H7 ?_)) fun xv s9 k9 h9 => ?_
      · rw [e7]; exact fun a o e => L5.1 a o (hE2 a o e)
      obtain ⟨x9, H9, I9, r9, e9, e9'⟩ := h9
      subst e9 e9'
      obtain ⟨tz, rfl⟩ := r9
      refine wpAny_pyIter_ascii ha ?_
      have hf : H9 s9.heap.objs.size = none := I9.hok.fresh (Nat.le_refl _)
      have fit := I9.fpOk (Nat.le_refl _) hf
      have I10 : Inv (X.blk s3 H3 scope ce fp) ([] ++ pinsAt fp s7.heap) ((wipe σ (own.map (·.2))).set iw (some (.str words[i]))) H9 { s9 with heap := s9.heap.push { cls := .type "str_ascii_iterator", data := .fields #[.str z tz, .int 0 0] } } := I9.kept (t' := s9.toks) fun b o e => Heap.get?_push_of_some _ e
      have st10 : ({ s9 with heap := s9.heap.push { cls := .type "str_ascii_iterator", data := .fields #[.str z tz, .int 0 0] } } : Shared).heap.IsStrIter s9.heap.objs.size "str_ascii_iterator" z tz 0 := ⟨_, Heap.get?_push_size _ rfl, rfl, rfl⟩
      have L10 : LL H2 H9 s9.toks D (pairsL (words.take i) z) := by
        rw [e7]
        exact L5.le (Nat.le_trans k7 (Nat.le_trans (by rw [k8']; exact Nat.le_succ _) k9))
      have hlen : (pairsL (words.take i) z).length ≤ 100000 := by
        rw [pairsL_len, List.length_take]
        exact Nat.le_trans (Nat.mul_le_mul (Nat.le_trans (Nat.min_le_right _ _) hwn) hz) (by decide)
      have hσw : ((wipe σ (own.map (·.2))).set iw (some (V.str words[i])))[iw]? = some (some (.str words[i])) := by
        rw [List.getElem?_set_self]
        rw [wipe_length, I.len]
        exact (List.getElem?_eq_some_iff.mp hiw).1
      have inner := ll_inner (Xb := X.blk s3 H3 scope ce fp) (iter := iter) (iter1 := iter1) (scope := scope) (pos := pos) (q1 := q1) (q2 := q2) (tp := tp) (k := k) (R := fun r s' => match r with
          | .ok _ => ∃ m, m < words.length - i ∧ ∃ i H', i ≤ words.length ∧ m = words.length - i ∧ Inv (X.blk s3 H3 scope ce fp) [] (wipe σ (own.map (·.2))) H' s' ∧ tn i s'.heap ∧ (∀ b ∈ fp, H' b = none) ∧ LL H2 H' s'.toks D (pairsL (words.take i) z)
          | .error _ => False) hc hN ha (Nat.le_trans hz (by decide)) hlen hiw hil hne (.inl lw) ll hσw (hst _) dw dc dl (fun H' hn => ⟨hn, fit.2⟩) hf I10 st10 (Nat.le_trans (by rw [k8']; exact Nat.succ_le_succ (Nat.zero_le _)) k9) L10 fun H' s' I' _ L' => ?_
      · exact compStart1_ok inner (wpAny_pyIter_striter_ascii st10 inner)
      · have pin' : ∀ b ∈ fp, ∀ o, s7.heap.get? b = some o → s'.heap.get? b = some o ∧ H' b = none := fun b hb o e =>
          let zz := I'.pin (b, o) (List.mem_append_right _ (List.mem_append_right _ (mem_pinsAt hb e)))
          ⟨zz.1, zz.2.1⟩
        refine ⟨words.length - (i + 1), by omega, i + 1, H', hlt, rfl, (I'.unpinned (pins := [])).weak (by simp) (fun j v e => ?_), T.keep _ _ _ st7 fun b hb o e => (pin' b hb o e).1, fun b hb => ?_, ?_⟩
        · obtain ⟨_, hj⟩ := wipe_some e
          rw [List.getElem?_set_ne (by rintro rfl; exact hj hol), List.getElem?_set_ne (by rintro rfl; exact hj how)]
          exact e
        · obtain ⟨o, e, _⟩ := T.obj _ _ st7 b hb
          exact (pin' b hb o e).2
        · rw [pairsL_snoc hwi]; exact L'
    · have ei : i = words.length := by omega
      have td := T.done (X.blk s3 H3 scope ce fp) rfl rfl rfl hc i [] s5 _ H5 (fun _ _ => False) I5 (stat I5 n5) st5 ⟨_, sq5, by rw [List.length_map]; omega⟩
      refine thnTF (Nat.le_refl _) td fun r s6 k6 h6 => ?_
      obtain ⟨hr, I6⟩ := h6
      subst hr
      have I7 : Inv X pins σ H5 s6 := I3.call' (ch := fp) I6.os I6.base I6.hok I6.bare fun b hb => ⟨(f3 b hb).1.2.2.2.1, (f3 b hb).1.2.1, (f3 b hb).1.2.2.2.2.1, (f3 b hb).1.2.2.2.2.2⟩
      have nC : H5 s3.heap.objs.size = none := by
        have zz : H5 ce.locals = none := I6.free
        rw [cL] at zz
        exact zz
      obtain ⟨m, hn, _⟩ := I6.loc
      have hn : s6.heap.Ns ce.locals m := hn
      rw [cL] at hn
      refine ⟨m, hn, fun h'' sb => ?_⟩
      obtain ⟨f0, f1, f2', f3', f4, f5⟩ := I3.fpOk (Nat.le_refl _) nC
      refine hQ D H5 _ (I7.turned (t' := s6.toks) (fun b o hb e => (sb.2 b hb).trans e) f0 f1 f3' f4 f5) ?_
      have L6 := L5.le (n' := s6.toks) k6
      rw [ei, List.take_length] at L6
      obtain ⟨g1, g2, as, g3, g4⟩ := L6
      have back : ∀ b, H2 b = none → H b = none := fun b hb => by
        cases e : H b with
        | none => rfl
        | some o => rw [hE2 b o e] at hb; cases hb
      exact ⟨fun a o e => g1 a o (hE2 a o e), back _ g2, as, g3, paired_imp g4 fun a p x => ⟨back _ x.1, x.2.1, x.2.2⟩⟩
  exact codeAny_compStart_list loop (T.self X.A 0 _ _ _ st4 loop)
end
end Dl
set_option Elab.async false
set_option linter.all false
set_option maxRecDepth 100000
set_option maxHeartbeats 4000000
set_option autoImplicit false
namespace Dl
open PySem PySem.Spec PyProof.Rows L2
/-! ### code whose value comes with a number of tokens that are out -/
abbrev VKn := V → Hp → Nat → Prop
def EPn (X : Cx) (pins : List (Addr × Obj)) (σ : L2.St) (Q : VKn) (u : Value) (s' : Shared) : Prop := ∃ v H' m, m ≤ s'.toks ∧ Inv X pins σ H' s' ∧ RelV v u ∧ Q v H' m
def APn (X : Cx) (pins : List (Addr × Obj)) (σ : L2.St) (Q : List V → Hp → Nat → Prop) (us : List Value) (s' : Shared) : Prop := ∃ vs H' m, m ≤ s'.toks ∧ Inv X pins σ H' s' ∧ Vals vs us ∧ Q vs H' m
structure PEr (X : Cx) (e : Expr) (te : L2.St → Hp → VKn → Prop) : Prop where
  run : ∀ (pins : List (Addr × Obj)) (s : Shared) (σ : L2.St) (H : Hp) (Q : VKn), Inv X pins σ H s → te σ H Q → wpAny (model X.prog X.w) X.A (eval e X.env) (EPn X pins σ Q) X.xe s
structure PAr (X : Cx) (es : List Expr) (t : L2.St → Hp → (List V → Hp → Nat → Prop) → Prop) : Prop where
  run : ∀ (pos : Pos) (pins : List (Addr × Obj)) (s : Shared) (σ : L2.St) (H : Hp) (Q : List V → Hp → Nat → Prop), Inv X pins σ H s → t σ H Q → wpAny (model X.prog X.w) X.A (spliced (backTo pos (starEach es X.env))) (APn X pins σ Q) X.xe s
/-- a body that returns such a value -/
structure PSsr (X : Cx) (body : List Stmt) (t : VKn → L2.St → Hp → Prop) : Prop where
  run : ∀ (pins : List (Addr × Obj)) (s : Shared) (σ : L2.St) (H : Hp) (Q : VKn), Inv X pins σ H s → t Q σ H → wpAny (model X.prog X.w) X.A (execs body X.env) (fun fl s' => ∃ u σ', fl = .ret u ∧ EPn X pins σ' Q u s') X.xe s
def tConsR (te : TE) (ta : L2.St → Hp → (List V → Hp → Nat → Prop) → Prop) : L2.St → Hp → (List V → Hp → Nat → Prop) → Prop := fun σ H Q => te σ H fun x H1 => ta σ H1 fun xs H2 m => Q (x :: xs) H2 m
def tStarR (K : PySem.W.Frag) (te : TE) (ta : L2.St → Hp → (List V → Hp → Nat → Prop) → Prop) : L2.St → Hp → (List V → Hp → Nat → Prop) → Prop := fun σ H Q => te σ H fun x H1 => ∃ a xs, x = V.ref a ∧ (SqT K H1 a xs ∨ SqL K H1 a xs) ∧ ta σ H1 fun ys H2 m => Q (xs ++ ys) H2 m
def tLastR (K : PySem.W.Frag) (tr : L2.St → Hp → VKn → Prop) : L2.St → Hp → (List V → Hp → Nat → Prop) → Prop := fun σ H Q => tr σ H fun x H1 m => ∃ a xs, x = V.ref a ∧ (SqT K H1 a xs ∨ SqL K H1 a xs) ∧ Q xs H1 m
def tOneR (tr : L2.St → Hp → VKn → Prop) : L2.St → Hp → (List V → Hp → Nat → Prop) → Prop := fun σ H Q => tr σ H fun x H1 m => Q [x] H1 m
def tLstR (ta : L2.St → Hp → (List V → Hp → Nat → Prop) → Prop) : L2.St → Hp → VKn → Prop := fun σ H Q => ta σ H fun xs H1 m => xs.length ≤ sizeLine ∧ ∀ a, H1 a = none → Q (.ref a) (upd H1 a (.lst xs)) m
def tRetR (tr : L2.St → Hp → VKn → Prop) : VKn → L2.St → Hp → Prop := fun Q σ H => tr σ H Q
def tSeqR (t : TS) (u : VKn → L2.St → Hp → Prop) : VKn → L2.St → Hp → Prop := fun Q σ H => t { nx := u Q, rt := fun _ _ => False, bk := fun _ _ => False, ct := fun _ _ => False } σ H
section
variable {X : Cx} {e : Expr} {es : List Expr} {st : Stmt} {rest : List Stmt} {te : TE} {tr : L2.St → Hp → VKn → Prop} {ta : L2.St → Hp → (List V → Hp → Nat → Prop) → Prop} {t : TS} {u : VKn → L2.St → Hp → Prop} {pos p : Pos}
theorem par_cons (he : PE X e te) (hr : PAr X es ta) (hs : starEach (e :: es) X.env = (false, eval e X.env) :: starEach es X.env := by rfl) : PAr X (e :: es) (tConsR te ta) := by
  refine ⟨fun pos pins s σ H Q I h => ?_⟩
  rw [hs]
  show wpAny _ _ (spliced ((false, eval e X.env) :: backTo pos (starEach es X.env))) _ _ s
  refine Calls.spliced_cons (thn (he.run pins s σ H _ I h) fun u s1 ⟨x, H1, I1, r1, q1⟩ => ?_)
  exact thn (hr.run pos pins s1 σ H1 _ I1 q1) fun us s2 ⟨xs, H2, m, k2, I2, r2, q2⟩ => ⟨x :: xs, H2, m, k2, I2, .cons r1 r2, q2⟩
theorem par_star {K : PySem.W.Frag} (hK : X.K = K) (he : PE X e te) (hr : PAr X es ta) (hs : starEach (.Starred e p :: es) X.env = (true, eval e X.env) :: starEach es X.env := by rfl) :
    PAr X (.Starred e p :: es) (tStarR K te ta) := by
  subst hK
  refine ⟨fun pos pins s σ H Q I h => ?_⟩
  refine PySem.W.items_star (thn (he.run pins s σ H _ I h) fun v s1 ⟨y, H1, I1, ry, a, xs, ey, hx, q⟩ => ?_) hs
  subst ey
  obtain rfl : v = Value.ref a := ry
  refine StX.star_any I1 hx fun us s2 I2 rv => ?_
  exact thn (hr.run pos pins s2 σ H1 _ I2 q) fun ws s3 ⟨vs, H3, m, k3, I3, r3, q3⟩ => ⟨xs ++ vs, H3, m, k3, I3, rv.append r3, q3⟩
/-- the last one, starred: its value comes with the tokens -/
theorem par_last {K : PySem.W.Frag} (hK : X.K = K) (he : PEr X e tr) (hs : starEach [.Starred e p] X.env = [(true, eval e X.env)] := by rfl) :
    PAr X [.Starred e p] (tLastR K tr) := by
  subst hK
  refine ⟨fun pos pins s σ H Q I h => ?_⟩
  refine PySem.W.items_star (rest := []) (thn (he.run pins s σ H _ I h) fun v s1 ⟨y, H1, m, k1, I1, ry, a, xs, ey, hx, q⟩ => ?_) (by rw [hs]; rfl)
  subst ey
  obtain rfl : v = Value.ref a := ry
  refine star_toks k1 (StX.star_any I1 hx fun us s2 I2 rv k2 => ?_)
  exact Calls.spliced_nil ⟨xs, H1, m, k2, I2, by rw [List.append_nil]; exact rv, q⟩
theorem par_one (he : PEr X e tr) (hs : starEach [e] X.env = [(false, eval e X.env)] := by rfl) : PAr X [e] (tOneR tr) := by
  refine ⟨fun pos pins s σ H Q I h => ?_⟩
  rw [hs]
  show wpAny _ _ (spliced [(false, eval e X.env)]) _ _ s
  exact Calls.spliced_cons (thn (he.run pins s σ H _ I h) fun u s1 ⟨x, H1, m, k1, I1, r1, q1⟩ => Calls.spliced_nil ⟨[x], H1, m, k1, I1, .cons r1 .nil, q1⟩)
theorem per_lst (h : PAr X es ta) : PEr X (.List es pos) (tLstR ta) := by
  refine ⟨fun pins s σ H Q I hq => ?_⟩
  refine wpAny_List_spliced (thn (h.run pos pins s σ H _ I hq) fun us s1 ⟨xs, H1, m, k1, I1, r, z, q⟩ => ⟨by rw [← r.length]; exact z, ?_⟩)
  have hf : H1 s1.heap.objs.size = none := I1.hok.fresh (Nat.le_refl _)
  refine ⟨.ref s1.heap.objs.size, upd H1 s1.heap.objs.size (.lst xs), m, k1, I1.laid (t' := s1.toks) (fun b u e => Heap.get?_push_of_some _ e) (Nat.le_refl _) ?_, rfl, q _ hf⟩
  exact ⟨z, us, 0, r, Heap.get?_push_size _ rfl⟩
theorem pssr_ret (h : PEr X e tr) : PSsr X [.Return (some e) pos] (tRetR tr) := by
  refine ⟨fun pins s σ H Q I h' => wpAny_execs_cons (wpAny_Return_some (thn (h.run pins s σ H Q I h') fun v s1 q => ⟨v, σ, rfl, q⟩))⟩
theorem pssr_cons (h1 : PS X st t) (h2 : PSsr X rest u) : PSsr X (st :: rest) (tSeqR t u) := by
  refine ⟨fun pins s σ H Q I h => wpAny_execs_cons (thn (h1.run pins s σ H _ I h) fun f s1 q => ?_)⟩
  cases f with
  | next =>
    obtain ⟨σ', H', I', q⟩ := q
    exact h2.run pins s1 σ' H' Q I' q
  | ret v => obtain ⟨_, _, _, _, _, q⟩ := q; exact q.elim
  | brk => obtain ⟨_, _, _, q⟩ := q; exact q.elim
  | cont => obtain ⟨_, _, _, q⟩ := q; exact q.elim
end
/-- the promise of a def whose value comes with tokens -/
abbrev Spn := List V → Hp → VKn → Prop
def CRn (outer : List Env) (P : Program) (w : World) (H : Hp) (s : Shared) (Q : VKn) (r : Result) (s' : Shared) : Prop :=
  match r with
  | .ok (.ret u) => ∃ v H' m, m ≤ s'.toks ∧ s'.os = s.os ∧ AllBare s'.gens ∧ Un (frs outer) [] H H' s.heap s'.heap ∧ HOk P w H' s'.heap ∧ RelV v u ∧ Q v H' m
  | _ => False
structure FnRn (P : Program) (w : World) (K : PySem.W.Frag) (mg : Str → Option Value) (base : Heap) (k : Nat) (f : Addr) (fd : FuncData) (ps : List Str) (sp : Spn) : Prop where
  len : ∀ vs H Q, sp vs H Q → vs.length = ps.length
  run : ∀ (A : Around) (outer : List Env) (s : Shared) (H : Hp) (args : Args) (us : List Value) (vs : List V) (Q : VKn), Room k A → Env0 P w K mg base A outer s H → BindsTo s fd args (ps.zip us) → Vals vs us → sp vs H Q →
    codeAny (model P w) A (.call (.ref f) args) (CRn outer P w H s Q) s
structure MetR (P : Program) (w : World) (K : PySem.W.Frag) (mg : Str → Option Value) (base : Heap) (k : Nat) (C : Addr) (m : Str) (ps : List Str) (sp : Spn) : Prop where
  ex : ∃ f fd, FnRn P w K mg base k f fd ps sp ∧ Meth K C m f ∧ Binds K fd ps []
  cl : Cls K C
theorem okRn {P : Program} {w : World} {K : PySem.W.Frag} {mg : Str → Option Value} {base : Heap} {x qual : Str} {params : Arguments} {body : List Stmt} {scope : Scope} {f : Addr} {fd : FuncData} {N ps : List Str} {k : Nat} {sp : Spn}
    (F : FunD K x qual params body scope [] [] f fd) (S : FnScope N ps scope) (hlen : ∀ vs H Q, sp vs H Q → vs.length = ps.length)
    (hbody : ∀ (cdv : Value) (A : Around) (outer : List Env) (s : Shared) (H : Hp), Room k (A.deeper (envOfC qual scope s.heap.objs.size f cdv)) →
      ∃ t, PSsr (cxOf CX0 P w K mg base N qual scope f cdv A outer s H (fun _ _ _ => False)) body t ∧ ∀ vs Q, sp vs H Q → t Q (L2.start N vs) H) : FnRn P w K mg base (k + 1) f fd ps sp := by
  refine ⟨hlen, fun A outer s H args us vs Q hr e0 hb rv hsp => ?_⟩
  refine fn_raw (CX := CX0) (E := fun _ _ _ => False) F S hr e0 hb (hlen _ _ _ hsp) rv (fun e s' z => False.elim z) fun cdv s1 hk hr1 I hn => ?_
  obtain ⟨t, hp, ht⟩ := hbody cdv A outer s H hr1
  refine wpAny_mono (hp.run [] s1 _ H Q I (ht vs Q hsp)) (fun fl s' hs => ?_) fun e s' hs => hs
  obtain ⟨u, σ', rfl, v, H', m, km, J, r, q⟩ := hs
  exact .inl ⟨u, rfl, v, H', m, km, J.os, J.bare, J.base, J.hok, r, q⟩
def tMet0R (C : Addr) (m : Str) (sp : Spn) (ta : TE) : L2.St → Hp → VKn → Prop := fun σ H Q => ta σ H fun x H1 => ∃ a dx fs, x = .ref a ∧ H1 a = some (.ins C dx fs) ∧ fs.lookup m = none ∧ sp [x] H1 Q
section
variable {X : Cx} {k : Nat} {C : Addr} {ps : List Str} {sp : Spn} {m : Str} {pos apos : Pos} {o : Expr} {ta : TE}
theorem per_met0 {pl : Sem Bool} (c : MetR X.prog X.w X.K X.mg X.base k C m ps sp) (hr : Room k X.A) (he : PE X o ta)
    (ht : eval (.Call (.Attribute o m apos) [] [] pos) X.env = (do
      let ov ← eval o X.env
      standAt apos.atName
      let (f, first) ← holding [ov] (getMethod ov m pl)
      callWith pos f first (backTo pos (starEach [] X.env)) (backToKw pos (keywordEach [] X.env))) := by rfl) :
    PEr X (.Call (.Attribute o m apos) [] [] pos) (tMet0R C m sp ta) := by
  obtain ⟨f, fd, F, hm, hb⟩ := c.ex
  refine ⟨fun pins s σ H Q I h => ?_⟩
  refine PySem.W.methodCall_KW (pl := pl) (thn (he.run pins s σ H _ I h) fun u s1 ⟨x, H1, I1, rx, a, dx, fs, ex, ea, l, q⟩ => ?_) ht
  subst ex
  obtain rfl : u = Value.ref a := rx
  refine getmeth_ok I1 ea c.cl hm l ?_
  refine PySem.W.callWith_K0 (first := [Value.ref a]) I1.kIn hm.kp ?_
  have hl := F.len _ _ _ q
  have hb' := hb s1 [Value.ref a] I1.kIn (by rw [List.append_nil]; exact hl)
  rw [List.append_nil] at hb' ⊢
  refine wpAny_call (codeAny_mono (F.run X.A X.stack s1 H1 ⟨[Value.ref a], []⟩ [.ref a] [.ref a] Q hr I1.env0 hb' (.cons rfl .nil) q) fun r s' hq => ?_)
  cases r with
  | error e => exact False.elim hq
  | ok fl =>
    cases fl with
    | ret u =>
      obtain ⟨v, H', m, km, os, bare, un, hok, r, q⟩ := hq
      obtain ⟨v2, H2, I2, r2, e2⟩ := I1.after (Q := fun v' H'' => v' = v ∧ H'' = H') ⟨v, H', os, bare, un, hok, r, rfl, rfl⟩
      obtain ⟨rfl, rfl⟩ := e2
      exact ⟨v2, H2, m, km, I2, r2, q⟩
    | next => exact False.elim hq
    | brk => exact False.elim hq
    | cont => exact False.elim hq
end
end Dl
set_option Elab.async false
set_option linter.all false
set_option maxRecDepth 100000
set_option maxHeartbeats 4000000
set_option autoImplicit false
namespace Dl
open PySem PySem.Spec PyProof.Rows L2
/-! ### the same by data -/
abbrev TEr := L2.St → Hp → VKn → Prop
abbrev TAr := L2.St → Hp → (List V → Hp → Nat → Prop) → Prop
def YEr (tr : TEr) (env : DEnv) (g : G) (Ψ : D → G → Nat → Prop) : Prop := ∀ M σ H, Sok M env g σ H → ∀ Q : VKn, (∀ d g' m v H', Ψ d g' m → Tr g H g' H' → Cok M g' H' → Rep (MM M g') H' d v → Q v H' m) → tr σ H Q
def YAr (tr : TAr) (env : DEnv) (g : G) (Ψ : List D → G → Nat → Prop) : Prop := ∀ M σ H, Sok M env g σ H → ∀ Q : List V → Hp → Nat → Prop, (∀ ds g' m vs H', Ψ ds g' m → Tr g H g' H' → Cok M g' H' → Reps (MM M g') H' ds vs → Q vs H' m) → tr σ H Q
def WSr (t : VKn → L2.St → Hp → Prop) (env : DEnv) (g : G) (Ψ : D → G → Nat → Prop) : Prop := ∀ M σ H, Sok M env g σ H → ∀ Q : VKn, (∀ d g' m v H', Ψ d g' m → Tr g H g' H' → Cok M g' H' → Rep (MM M g') H' d v → Q v H' m) → t Q σ H
section
variable {K : PySem.W.Frag} {env : DEnv} {g : G} {te : TE} {tr : TEr} {ta : TAr} {Ψ : D → G → Nat → Prop} {Λ : List D → G → Nat → Prop}
theorem yr_cons (h : YE te env g fun d g1 => YAr ta env g1 fun ds g2 m => Λ (d :: ds) g2 m) : YAr (tConsR te ta) env g Λ := fun M σ H s Q k =>
  h M σ H s _ fun d g1 v H1 h1 t1 c1 r1 => h1 M σ H1 (s.to t1 c1) _ fun ds g2 m vs H2 q t2 c2 r2 => k (d :: ds) g2 m (v :: vs) H2 q (t1.trans t2) c2 (.cons (t2.rep c1.dom r1) r2)
theorem yr_star (h : YE te env g fun d g1 => ∃ xs, SV g1 d xs ∧ YAr ta env g1 fun ds g2 m => Λ (xs ++ ds) g2 m) : YAr (tStarR K te ta) env g Λ := fun M σ H s Q k =>
  h M σ H s _ fun d g1 v H1 ⟨xs, sv, h1⟩ t1 c1 r1 => by
    obtain ⟨a, vs, e, h2, r2⟩ := sv.at K c1 r1
    exact ⟨a, vs, e, h2.symm, h1 M σ H1 (s.to t1 c1) _ fun ds g2 m ws H2 q t2 c2 r3 => k _ g2 m _ H2 q (t1.trans t2) c2 ((t2.reps c1.dom r2).append r3)⟩
theorem yr_last (h : YEr tr env g fun d g1 m => ∃ xs, SV g1 d xs ∧ Λ xs g1 m) : YAr (tLastR K tr) env g Λ := fun M σ H s Q k =>
  h M σ H s _ fun d g1 m v H1 ⟨xs, sv, q⟩ t1 c1 r1 => by
    obtain ⟨a, vs, e, h2, r2⟩ := sv.at K c1 r1
    exact ⟨a, vs, e, h2.symm, k _ g1 m _ H1 q t1 c1 r2⟩
theorem yr_one (h : YEr tr env g fun d g1 m => Λ [d] g1 m) : YAr (tOneR tr) env g Λ := fun M σ H s Q k =>
  h M σ H s _ fun d g1 m v H1 q t1 c1 r1 => k _ g1 m _ H1 q t1 c1 (.one r1)
theorem yr_lst (h : YAr ta env g fun ds g1 m => ds.length ≤ 1000000 ∧ Ψ (.lst ds) g1 m) : YEr (tLstR ta) env g Ψ := fun M σ H s Q k =>
  h M σ H s _ fun ds g1 m vs H1 ⟨hl, h1⟩ t1 c1 r1 => ⟨by rw [r1.length, sizeLine_eq]; omega, fun p hp => k _ g1 m _ _ h1 (t1.trans (.new hp)) (c1.grow (ex_new hp)) ⟨p, vs, rfl, new_rep c1 hp, upd_same, r1.mono ((Tr.new (g := g1) hp).leq c1.dom)⟩⟩
theorem wsr_ret (h : YEr tr env g Ψ) : WSr (tRetR tr) env g Ψ := fun M σ H s Q k => h M σ H s Q k
theorem wsr_cons {t : TS} {u : VKn → L2.St → Hp → Prop} (h : WS t env g ⟨fun e2 g2 => WSr u e2 g2 Ψ, fun _ _ => False, fun _ _ => False, fun _ _ => False⟩) :
    WSr (tSeqR t u) env g Ψ := fun M σ H s Q k =>
  h M σ H s _ ⟨fun e2 g2 σ2 H2 q t2 s2 => q M σ2 H2 s2 Q fun d g' m v H' p t c r => k d g' m v H' p (t2.trans t) c r, fun _ _ _ _ z => z.elim, fun _ _ _ _ z => z.elim, fun _ _ _ _ z => z.elim⟩
end
/-- the promise by data: no cell is touched -/
def spRn {α : Type} (pre : α → List D → Prop) (res : α → Nat → D) : Spn := fun vs H Q => ∃ M ds x, Cok M [] H ∧ Reps (MM M []) H ds vs ∧ pre x ds ∧ ∀ m v H', Tr [] H [] H' → Cok M [] H' → Rep (MM M []) H' (res x m) v → Q v H' m
theorem okRd {α : Type} {pre : α → List D → Prop} {res : α → Nat → D} {P : Program} {w : World} {K : PySem.W.Frag} {mg : Str → Option Value} {base : Heap} {x qual : Str} {params : Arguments} {body : List Stmt} {scope : Scope} {f : Addr} {fd : FuncData} {N ps : List Str} {k : Nat}
    (F : FunD K x qual params body scope [] [] f fd) (S : FnScope N ps scope) (hlen : ∀ x ds, pre x ds → ds.length = ps.length)
    (hbody : ∀ (cdv : Value) (A : Around) (outer : List Env) (s : Shared) (H : Hp), Room k (A.deeper (envOfC qual scope s.heap.objs.size f cdv)) →
      ∃ t, PSsr (cxOf CX0 P w K mg base N qual scope f cdv A outer s H (fun _ _ _ => False)) body t ∧ ∀ x ds, pre x ds → WSr t (startD N ds) [] fun d g' m => g' = [] ∧ d = res x m) : FnRn P w K mg base (k + 1) f fd ps (spRn pre res) := by
  refine okRn F S (fun vs H Q ⟨M, ds, x, c, r, p, _⟩ => by rw [r.length]; exact hlen x ds p) fun cdv A outer s H hr => ?_
  obtain ⟨t, hp, ht⟩ := hbody cdv A outer s H hr
  refine ⟨t, hp, ?_⟩
  rintro vs Q ⟨M, ds, y, c, r, p, q⟩
  refine ht y ds p M _ H (sok_start c r) Q ?_
  rintro d g' m v H' ⟨rfl, rfl⟩ t' c' r'
  exact q m v H' t' c' r'
section
variable {K : PySem.W.Frag} {env : DEnv} {g : G} {te : TE} {Ψ : D → G → Nat → Prop} {α : Type} {pre : α → List D → Prop} {res : α → Nat → D}
theorem yr_met0 {C : Addr} {m : Str} (h : YE te env g fun d g1 => ∃ ns xs x, OV g1 d C ns xs ∧ m ∉ ns ∧ pre x [d] ∧ ∀ n, Ψ (res x n) g1 n) :
    YEr (tMet0R C m (spRn pre res) te) env g Ψ := fun M σ H s Q k =>
  h M σ H s _ fun d g1 u H1 ⟨ns, xs, x, ov, hm, hp, q⟩ t1 c1 r1 => by
    obtain ⟨a, dx, vs, e, h1, _, r⟩ := ov.at c1 r1
    have c1' : Cok M ([] ++ g1) H1 := c1
    refine ⟨a, dx, _, e, h1, dlf_none hm, MM M g1, [d], x, c1'.aside, .one (r1.iff fun a => (MM_app (g := []) (g' := g1)).symm), hp, fun n v H' t c r => ?_⟩
    exact k _ ([] ++ g1) n v H' (q n) (t1.trans (Tr.app (gr := g1) t)) (c1'.back t c) (r.iff fun a => MM_app)
end
end Dl
set_option Elab.async false
set_option linter.all false
set_option maxRecDepth 100000
set_option maxHeartbeats 4000000
set_option autoImplicit false
namespace Dl
open PySem PySem.Spec PyProof.Rows L2
def tLL (K : PySem.W.Frag) (wi : TI) (te1 : TE) (vs : List Nat) (iw : Nat) : TEr := fun σ H Q => ∃ (words : List Str) (z : Str), z.cps.all (· < 128) = true ∧ z.cps.size ≤ 100 ∧ words.length ≤ 100 ∧
  (wi σ H fun J H1 => Ext H H1 ∧ ∃ a0, J = Itt K a0 ∧ SqT K H1 a0 (words.map V.str)) ∧ (∀ w H', Ext H H' → te1 ((wipe σ vs).set iw (some (.str w))) H' fun x H'' => x = .str z ∧ H'' = H') ∧
  ∀ D H' m, LL H H' m D (pairsL words z) → Q (.ref D) H' m
section
variable {X : Cx} {wx lx : Str} {iw il : Nat} {iter iter1 : Expr} {scope : Scope} {own : List (Str × Nat)} {pos p1 p2 q1 q2 tp : Pos} {k : Nat} {wi : TI} {te1 : TE}
theorem per_ll (hc : X.calm = true) (hN : X.N.Nodup) (hi : PI X (.Name wx q1) iter wi) (ok : BlkOk X.N X.env.scope scope own)
    (hiw : X.N[iw]? = some wx) (hil : X.N[il]? = some lx) (how : iw ∈ own.map (·.2)) (hol : il ∈ own.map (·.2)) (hne : iw ≠ il) (hlw : scope.names.lookup wx = some .local) (hll : scope.names.lookup lx = some .local)
    (he1 : ∀ (s : Shared) (H : Hp) (C : Addr) (cl : List (Str × Addr)) (fp : List Addr), PE (X.blk s H scope (compEnvC scope cl C X.env) fp) iter1 te1)
    (hs : ∀ x, foldedSetIterable iter X.env x = pure x := by intro _; rfl) (hs1 : ∀ env x, foldedSetIterable iter1 env x = pure x := by intro _ _; rfl)
    (hst : ∀ env, starEach [.Name wx p1, .Name lx p2] env = [(false, eval (.Name wx p1) env), (false, eval (.Name lx p2) env)] := by intro _; rfl)
    (dw : (wx == ("__debug__" : Str)) = false := by decide) (dc : (wx == ("__classdict__" : Str)) = false := by decide) (dl : (lx == ("__debug__" : Str)) = false := by decide) :
    PEr X (.ListComp (.Tuple [.Name wx p1, .Name lx p2] k tp) [⟨.Name wx q1, iter, [], 0⟩, ⟨.Name lx q2, iter1, [], 0⟩] scope pos) (tLL X.K wi te1 (own.map (·.2)) iw) := by
  refine ⟨fun pins s σ H Q I h => ?_⟩
  obtain ⟨words, z, ha, hz, hwn, hw0, hw1, q⟩ := h
  exact ll_core hc hN I hi ok hiw hil how hol hne hlw hll ha hz hwn he1 hs hs1 hst dw dc dl hw0 hw1 fun D H' s' I' L => ⟨.ref D, H', s'.toks, Nat.le_refl _, I', rfl, q D H' s'.toks L⟩
end
section
variable {K : PySem.W.Frag} {env : DEnv} {te0 : TE} {Ψ : D → G → Nat → Prop}
theorem raws_rep {M : Addr → Prop} {H H' : Hp} {n : Nat} {D : Addr} (hM : ∀ a, M a → H a ≠ none) : ∀ {as : List Addr} {ps : List (Str × Str)}, Paired (fun a p => H a = none ∧ a ≠ D ∧ RawL n H' a p.1 p.2) as ps → Reps (MM M []) H' (ps.map fun p => .raw n p.1 p.2) (as.map V.ref)
  | _, _, .nil => rfl
  | _, _, .cons r t => ⟨_, _, rfl, ⟨_, rfl, fun z => z.elim (fun q => hM _ q r.1) (fun q => by simp [ks] at q), r.2.2⟩, raws_rep hM t⟩
theorem yr_ll {i0 iw : Nat} {vs : List Nat} {f : Str} {C : Addr} {ns : List Str} {xs : List D} {words : List Str} {z : Str} (h0 : env[i0]? = some (some (.obj C ns xs))) (hi : i0 ∉ vs) (hw : i0 ≠ iw) (hc : Cls K C) (hn : NoAttr K C f) (hf : dlf ns xs f = some (dS z))
    (ha : z.cps.all (· < 128) = true) (hz : z.cps.size ≤ 100) (hwn : words.length ≤ 100) (ht : YE te0 env [] fun d g1 => g1 = [] ∧ d = .tup (words.map dS)) (q : ∀ n, Ψ (.lst ((pairsL words z).map fun p => .raw n p.1 p.2)) [] n) :
    YEr (tLL K (iAny K te0) (tFld K (tVar i0) f) vs iw) env [] Ψ := fun M σ H s Q k => by
  refine ⟨words, z, ha, hz, hwn, ?_, fun w H' ext => ?_, fun D H' m L => ?_⟩
  · refine ht M σ H s _ fun d g1 v H1 e t1 c1 r1 => ?_
    obtain ⟨rfl, rfl⟩ := e
    obtain ⟨a, us, e, n, h1, r⟩ := r1
    have := strs_of r
    subst this
    exact .inr (.inl ⟨a, _, e, .of h1, fun b o e => t1.kp b o e (by simp [ks]), a, rfl, .of h1⟩)
  · obtain ⟨v, hv, r0⟩ := s.slots i0 _ h0
    have r1 : Rep (MM M []) H' (.obj C ns xs) v := r0.mono ((Tr.ex (g := []) ext).leq s.dom)
    obtain ⟨a, dx, us, e, n, h1, hl, r⟩ := r1
    obtain ⟨v', h2, r2⟩ := dlf_ok r hf
    refine ⟨v, by rw [List.getElem?_set_ne (Ne.symm hw), wipe_out hi]; exact hv, a, C, dx, _, v', e, h1, hc, hn, h2, r2, rfl⟩
  · obtain ⟨ext, hD, as, h3, h4⟩ := L
    exact k _ [] m _ H' (q m) (.ex ext) (s.toCok.grow ext) ⟨D, _, rfl, new_rep s.toCok hD, h3, raws_rep s.dom h4⟩
end
/-! ### ways, labels = {..}, o.labels() -/
def tParR (i j : Nat) (ta : TAr) (u : Nat → TS) : TS := fun D σ H => ta σ H fun vs H1 m => ∃ v w, vs = [v, w] ∧ u m D ((σ.set i (some v)).set j (some w)) H1
theorem pss_parR {X : Cx} {i j : Nat} {x y : Str} {a b : Expr} {ta : TAr} {px py pt pos : Pos} {kt k2 pt2} {rest : List Stmt} {u : Nat → TS} (hc : X.calm = true) (hN : X.N.Nodup) (hi : X.N[i]? = some x) (hj : X.N[j]? = some y) (hij : i ≠ j)
    (hx : X.env.scope.names.lookup x = some .local) (hy : X.env.scope.names.lookup y = some .local) (ha : PAr X [a, b] ta) (hr : ∀ m, PSsn m X rest (u m))
    (hw : swappedStores [.Tuple [.Name x px, .Name y py] kt pt] (.Tuple [a, b] k2 pt2) X.env = pure (some [x, y]))
    (hs : swapsWithSole [.Tuple [.Name x px, .Name y py] kt pt] (.Tuple [a, b] k2 pt2) pos.line X.env = pure false := by rfl) :
    PSs X (.Assign [.Tuple [.Name x px, .Name y py] kt pt] (.Tuple [a, b] k2 pt2) pos :: rest) (tParR i j ta u) := by
  refine ⟨fun pins s σ H D I h => wpAny_execs_cons ?_⟩
  rw [exec_Assign_arm]
  refine wpAny_bind (wpAny_standAt ?_)
  rw [hs]
  refine wpAny_bind (wpAny_pure ?_)
  rw [if_neg (by decide)]
  refine wpAny_bind (Tuple_ (thn (ha.run _ pins s σ H _ I h) fun us s1 q1 => ?_))
  obtain ⟨vs, H1, m, k1, I1, r1, v, w, e1, q1⟩ := q1
  subst e1
  obtain ⟨u1, u2, rfl, rv, rw'⟩ : ∃ u1 u2, us = [u1, u2] ∧ RelV v u1 ∧ RelV w u2 := by
    cases r1 with
    | cons p q =>
      cases q with
      | cons p' q' =>
        cases q'
        exact ⟨_, _, rfl, p, p'⟩
  refine wpAny_newObj_type ?_ (by show 2 ≤ sizeLine; decide)
  have I2 : Inv X pins σ H1 { s1 with heap := s1.heap.push { cls := .type "tuple", data := .seq [u1, u2].toArray } } := I1.kept (t' := s1.toks) fun b o e => Heap.get?_push_of_some _ e
  rw [hw]
  refine wpAny_bind (wpAny_pure ?_)
  show wpAny (model X.prog X.w) X.A (do rule "assign.swapped-stores"; let items ← unpackItems (.ref s1.heap.objs.size) 2 none; assignInOrder [fun v => bindName X.env y v, fun v => bindName X.env x v] items.reverse; pure Flow.next) _ _ _
  refine wpAny_mono (wpAny_toks_of (n := m) (Q := fun f s' => f = .next ∧ Inv X pins ((σ.set i (some v)).set j (some w)) H1 s') k1 ?_) (fun f s3 x => ?_) fun _ _ x => x.2
  · refine wpAny_bind (wpAny_rule (wpAny_bind (unpackItems_tuple (items := #[u1, u2]) (I.ok.hd hc) (IsTup.new s1.heap _) fun h' hx' => ?_)))
    have I3 := I2.kept (h' := h') (t' := s1.toks) fun b o e => hx' b o (Nat.ne_of_lt (Heap.lt_size e)) e
    show wpAny _ _ (assignInOrder [fun v => bindName X.env y v, fun v => bindName X.env x v] [u2, u1] >>= fun _ => pure Flow.next) _ _ _
    refine wpAny_bind (assignInOrder_cons (wpAny_bindName (store_ok I3 hN hj (.inl hy) rw' (fun s2 I4 => ?_) (.inr hy))))
    refine assignInOrder_cons (wpAny_bindName (store_ok I4 hN hi (.inl hx) rv (fun s3 I5 => assignInOrder_nil (wpAny_pure ?_)) (.inr hx)))
    rw [List.set_comm _ _ (Ne.symm hij)] at I5
    exact ⟨rfl, I5⟩
  · obtain ⟨k3, rfl, I5⟩ := x
    exact (hr m).run pins s3 _ H1 D k3 I5 q1
theorem ws_parR {i j : Nat} {ta : TAr} {u : Nat → TS} {env : DEnv} {g : G} {E : DE} (h : YAr ta env g fun ds g1 m => ∃ d e, ds = [d, e] ∧ WS (u m) ((env.set i (some d)).set j (some e)) g1 E) : WS (tParR i j ta u) env g E := fun M σ H s Z f =>
  h M σ H s _ fun ds g1 m vs H1 ⟨d, e, ed, q⟩ t1 c1 r1 => by
    subst ed
    obtain ⟨v, w, ev, rv, rw⟩ := reps2 r1
    exact ⟨v, w, ev, q M _ H1 (((s.to t1 c1).set rv).set rw) Z (f.to t1)⟩
end Dl
set_option Elab.async false
set_option linter.all false
set_option maxRecDepth 100000
set_option maxHeartbeats 4000000
set_option autoImplicit false
namespace Dl
open PySem PySem.Spec PyProof.Rows L2
/-! ### one, other = a, b where tokens are wanted -/
theorem psn_par {n : Nat} {X : Cx} {i j : Nat} {x y : Str} {a b : Expr} {ta : TA} {px py pt pos : Pos} {kt k2 pt2} (hc : X.calm = true) (hN : X.N.Nodup) (hi : X.N[i]? = some x) (hj : X.N[j]? = some y) (hij : i ≠ j)
    (hx : X.env.scope.names.lookup x = some .local) (hy : X.env.scope.names.lookup y = some .local) (ha : PAn n X [a, b] ta)
    (hw : swappedStores [.Tuple [.Name x px, .Name y py] kt pt] (.Tuple [a, b] k2 pt2) X.env = pure (some [x, y]))
    (hs : swapsWithSole [.Tuple [.Name x px, .Name y py] kt pt] (.Tuple [a, b] k2 pt2) pos.line X.env = pure false := by rfl) :
    PSn n X (.Assign [.Tuple [.Name x px, .Name y py] kt pt] (.Tuple [a, b] k2 pt2) pos) (tPar i j ta) := by
  refine ⟨fun pins s σ H D hn I h => ?_⟩
  rw [exec_Assign_arm]
  refine wpAny_bind (wpAny_standAt ?_)
  rw [hs]
  refine wpAny_bind (wpAny_pure ?_)
  rw [if_neg (by decide)]
  refine wpAny_bind (Tuple_ (thn (ha.run _ pins s σ H _ hn I h) fun us s1 ⟨vs, H1, I1, r1, v, w, e1, q1⟩ => ?_))
  subst e1
  obtain ⟨u1, u2, rfl, rv, rw'⟩ : ∃ u1 u2, us = [u1, u2] ∧ RelV v u1 ∧ RelV w u2 := by
    cases r1 with
    | cons p q =>
      cases q with
      | cons p' q' =>
        cases q'
        exact ⟨_, _, rfl, p, p'⟩
  refine wpAny_newObj_type ?_ (by show 2 ≤ sizeLine; decide)
  have I2 : Inv X pins σ H1 { s1 with heap := s1.heap.push { cls := .type "tuple", data := .seq [u1, u2].toArray } } := I1.kept (t' := s1.toks) fun b o e => Heap.get?_push_of_some _ e
  rw [hw]
  refine wpAny_bind (wpAny_pure ?_)
  show wpAny (model X.prog X.w) X.A (do rule "assign.swapped-stores"; let items ← unpackItems (.ref s1.heap.objs.size) 2 none; assignInOrder [fun v => bindName X.env y v, fun v => bindName X.env x v] items.reverse; pure Flow.next) _ _ _
  refine wpAny_bind (wpAny_rule (wpAny_bind (unpackItems_tuple (items := #[u1, u2]) (I.ok.hd hc) (IsTup.new s1.heap _) fun h' hx' => ?_)))
  have I3 := I2.kept (h' := h') (t' := s1.toks) fun b o e => hx' b o (Nat.ne_of_lt (Heap.lt_size e)) e
  show wpAny _ _ (assignInOrder [fun v => bindName X.env y v, fun v => bindName X.env x v] [u2, u1] >>= fun _ => pure Flow.next) _ _ _
  refine wpAny_bind (assignInOrder_cons (wpAny_bindName (store_ok I3 hN hj (.inl hy) rw' (fun s2 I4 => ?_) (.inr hy))))
  refine assignInOrder_cons (wpAny_bindName (store_ok I4 hN hi (.inl hx) rv (fun s3 I5 => assignInOrder_nil (wpAny_pure ?_)) (.inr hx)))
  rw [List.set_comm _ _ (Ne.symm hij)] at I5
  exact ⟨_, H1, I5, q1⟩
theorem ws_par {i j : Nat} {ta : TA} {env : DEnv} {g : G} {E : DE} (h : YA ta env g fun ds g1 => ∃ d e, ds = [d, e] ∧ E.nx ((env.set i (some d)).set j (some e)) g1) : WS (tPar i j ta) env g E := fun M σ H s Z f =>
  h M σ H s _ fun ds g1 vs H1 ⟨d, e, ed, q⟩ t1 c1 r1 => by
    subst ed
    obtain ⟨v, w, ev, rv, rw⟩ := reps2 r1
    exact ⟨v, w, ev, f.nx _ _ _ H1 q t1 (((s.to t1 c1).set rv).set rw)⟩
theorem PSsn.nox {n : Nat} {X : Cx} {st : List Stmt} {t : TS} (h : PSsn n X.nox st t) : PSsn n X st t := ⟨fun pins s σ H D hn I hw =>
  wpAny_mono (h.run pins s σ H D hn (I.wish _) hw) (fun _ _ q => q.unwish) fun _ _ z => False.elim z⟩
theorem PSsr.nox {X : Cx} {st : List Stmt} {t : VKn → L2.St → Hp → Prop} (h : PSsr X.nox st t) : PSsr X st t := ⟨fun pins s σ H Q I hw =>
  wpAny_mono (h.run pins s σ H Q (I.wish _) hw) (fun _ _ ⟨u, σ', e, v, H', m, km, I', r, q⟩ => ⟨u, σ', e, v, H', m, km, I'.unwish, r, q⟩) fun _ _ z => False.elim z⟩
theorem yr_sub {tr : TEr} {env : DEnv} {g : G} {Ψ : D → G → Nat → Prop} (h : YEr tr env g fun d g1 m => ∃ g2, g2.Sublist g1 ∧ Ψ d g2 m) : YEr tr env g Ψ := fun M σ H s Q k =>
  h M σ H s _ fun d g1 m v H1 hh t1 c1 r1 => by
    obtain ⟨g2, hs, q⟩ := hh
    obtain ⟨c2, t2, lq⟩ := cok_sub c1 hs
    exact k d g2 m v H1 q (t1.trans t2) c2 (r1.mono lq)
theorem ye_tupStar {K : PySem.W.Frag} {env : DEnv} {g : G} {te : TE} {tr : TA} {Λ : List D → G → Prop} (h : YE te env g fun d g1 => ∃ xs, SV g1 d xs ∧ YA tr env g1 fun ds g2 => Λ (xs ++ ds) g2) : YA (StX.tStar K te tr) env g Λ := ya_star h
end Dl
set_option Elab.async false
set_option linter.all false
set_option maxRecDepth 100000
set_option maxHeartbeats 4000000
set_option autoImplicit false
namespace Dl
open PySem PySem.Spec PyProof.Rows L2
/-! ### x in o by an own __contains__ -/
theorem rd_own {C : Addr} {neg : Bool} {α : Type} {pre : α → List D → Prop} {res : α → D} {x y : D} {g : G} {Ψ : D → G → Prop} (h : ∃ ns xs a b, OV g y C ns xs ∧ pre a [y, x] ∧ res a = dB b ∧ Ψ (dB (if neg then !b else b)) g) : RD (rOwnIn C (spR (pureR pre res)) neg) x y g Ψ := by
  obtain ⟨ns, xs, a, b, ov, hp, hr, q⟩ := h
  intro M H c u w ru rw Q k
  obtain ⟨p, dx, vs, e, h1, _, r⟩ := ov.at c rw
  subst e
  refine ⟨p, dx, _, rfl, h1, ?_⟩
  have c1 : Cok M ([] ++ g) H := c
  refine call_core (R := pureR pre res) (Ψ := fun d g' => d = dB b ∧ g' = [] ++ g) (gc := []) (gr := g) c1 (.cons rw (.one ru)) (show (pureR pre res).r [y, x] [] _ from ⟨rfl, a, hp, hr, rfl⟩) (fun d g' v H' e t c' r' => ?_) _
  obtain ⟨rfl, rfl⟩ := e
  exact ⟨b, r', k _ _ _ H' q t c' rfl⟩
end Dl
set_option Elab.async false
set_option linter.all false
set_option maxRecDepth 100000
set_option maxHeartbeats 4000000
set_option autoImplicit false
namespace Dl
open PySem PySem.Spec PyProof.Rows L2
theorem iteB {b : Bool} {p q : Prop} (h1 : b = true → p) (h2 : b = false → q) : if b = true then p else q := by
  cases b with
  | true => exact h1 rfl
  | false => exact h2 rfl
/-! ### a dict with tuples as keys: {k: v} -/
def tDispT1 (tk tv : TE) : TE := fun σ H Q => ∀ p, H p = none → tk σ (upd H p (.dT [])) fun x H1 => tv σ H1 fun y H2 => H2 p = some (.dT []) ∧ ∃ b kk, x = .ref b ∧ H2 b = some (.tup (kk.map kV)) ∧ Q (.ref p) (upd H2 p (.dT [(kk, y)]))
theorem pe_dispT1 {X : Cx} {pos : Pos} {k v : Expr} {tk tv : TE} (hu : X.A.units + 1 < cLine) (hk : PE X k tk) (hv : PE X v tv) : PE X (.Dict [some k] [v] pos) (tDispT1 tk tv) := by
  refine ⟨fun pins s σ H Q I q => ?_⟩
  have hn := I.hok.fresh (Nat.le_refl s.heap.objs.size)
  have I1 := I.laid (a := s.heap.objs.size) (o := .dT []) (h' := s.heap.push { cls := .type "dict", data := .dict #[] }) (t' := s.toks) (fun _ _ q => Heap.get?_push_of_some _ q) (Nat.le_refl _) (dt_empty s.heap I.big)
  have hsh := zip_pairTrees [some k] [v] X.env pos rfl rfl
  rw [arm_eval_Dict, hsh, dictDisplay_pairs (pairTrees [some k] [v] X.env pos) (by simp [pairTrees]) (by simp [pairTrees])]
  refine wpAny_bind (wpAny_standAt (wpAny_bind (wpAny_subDictH (knd := tupleKind (mixKind X.prog X.w)) (show X.A.units < cLine by omega) (by simp [pairTrees]) ?_)))
  refine pairTrees_cons_walk (thn (hk.run pins _ σ _ _ I1 (q _ hn)) fun u s1 ⟨x, H1, I2, rx, q1⟩ => thn (hv.run pins s1 σ H1 _ I2 q1) fun w2 s2 ⟨y, H2, I3, ry, q2⟩ => pairTrees_nil_walk ?_)
  obtain ⟨e, b, kk, ex, eb, q3⟩ := q2
  subst ex
  obtain rfl : u = Value.ref b := rx
  obtain ⟨z, hd, xs, r0, dd⟩ := dt_of I3.hok e
  have rel := r0
  cases r0
  refine ⟨[(kk, b, w2)], ⟨rfl, rfl, key_of I3.hok eb, trivial⟩, dd, fun h' tk' dd' hs => wpAny_pure ⟨.ref _, _, ?_, rfl, q3⟩⟩
  obtain ⟨o, es, ep, hq, h2, h3, h4, _, h5⟩ := dd'
  refine d_write I3 (by rw [e]; exact True.intro) hs ⟨o, hq⟩ ⟨?_, hd, _, (rel.put kk eb ry).keeps fun c ys ec => ?_, o, es, ep, hq, h2, h3, h4, h5⟩
  · show 1 ≤ sizeLine
    rw [sizeLine_eq]; decide
  · rw [upd_ne (ne_of ec e (fun z => nomatch z))]; exact ec
/-- an object set aside becomes a cell -/
theorem cok_take {M : Addr → Prop} {g : G} {H : Hp} {p : Addr} {m : MO} {o' : HO} (c : Cok (MD M p) g H) (nM : ¬ M p) (r : MRep (MM (MD M p) g) H m o') : Cok M (g ++ [(p, m)]) (upd H p o') := by
  have np : p ∉ ks g := fun z => c.dis p z (.inr rfl)
  have lq : Leq (MM (MD M p) g) (MM M (g ++ [(p, m)])) H (upd H p o') := ⟨fun a o n e => by rw [upd_ne (fun z => n (.inl (.inr z)))]; exact e, fun a n _ z => by
    rcases z with z | z
    · exact n (.inl (.inl z))
    · unfold ks at z
      rw [List.map_append, List.mem_append] at z
      rcases z with z | z
      · exact n (.inr z)
      · simp at z
        exact n (.inl (.inr z))⟩
  refine ⟨fun a m' hm => ?_, ?_, fun a z => ?_, fun a h z => ?_⟩
  · rcases List.mem_append.mp hm with hm | hm
    · obtain ⟨o, h1, h2⟩ := c.cells a m' hm
      have ne : a ≠ p := fun z => np (z ▸ List.mem_map.mpr ⟨(a, m'), hm, rfl⟩)
      exact ⟨o, by rw [upd_ne ne]; exact h1, h2.mono lq⟩
    · simp at hm
      obtain ⟨rfl, rfl⟩ := hm
      exact ⟨o', upd_same, r.mono lq⟩
  · unfold ks
    rw [List.map_append]
    refine List.nodup_append.mpr ⟨c.nd, by simp, fun a z1 b z2 e => ?_⟩
    simp at z2
    subst z2 e
    exact np z1
  · rw [upd_ne (by rintro rfl; exact nM z)]
    exact c.dom a (.inl z)
  · unfold ks at h
    rw [List.map_append, List.mem_append] at h
    rcases h with h | h
    · exact c.dis a h (.inl z)
    · simp at h
      subst h
      exact nM z
section
variable {env : DEnv} {g : G} {Ψ : D → G → Prop} {tk tv : TE}
abbrev dKey (kk : List Key) : D := .tup (kk.map fun k => .v (kV k))
theorem key_at {M : Addr → Prop} {H : Hp} {kk : List Key} {u : V} (r : Rep M H (dKey kk) u) : ∃ b, u = .ref b ∧ H b = some (.tup (kk.map kV)) := by
  obtain ⟨b, vs, e, n, h, q⟩ := r
  have e2 : vs = kk.map kV := by
    have q2 : Reps M H ((kk.map kV).map D.v) vs := by rw [List.map_map]; exact q
    exact q2.flat
  subst e2
  exact ⟨b, e, h⟩
theorem ye_dispT1 (h : YE tk env g fun x g1 => YE tv env g1 fun y g2 => ∃ kk, x = dKey kk ∧ ∀ a, a ∉ ks g2 → Ψ (.v (.ref a)) (g2 ++ [(a, .dit [kk] [y])])) : YE (tDispT1 tk tv) env g Ψ := fun M σ H s Q k p hp => by
  have nM : ¬ M p := fun z => s.dom p z hp
  have nG : p ∉ ks g := fun z => new_rep s.toCok hp (.inr z)
  have lq : Leq (MM M g) (MM (MD M p) g) H (upd H p (.dT [])) := .of (fun a o n e => by rw [upd_ne (ne_of_none e hp)]; exact e) fun a n e z => by
    rcases z with (z | z) | z
    · exact n (.inl z)
    · subst z; exact e hp
    · exact n (.inr z)
  have c0 : Cok (MD M p) g (upd H p (.dT [])) := by
    refine ⟨fun a m hm => ?_, s.nd, fun a z => ?_, fun a h z => z.elim (s.dis a h) (by rintro rfl; exact nG h)⟩
    · obtain ⟨o, h1, h2⟩ := s.cells a m hm
      exact ⟨o, ex_new hp a o h1, h2.mono lq⟩
    · rcases z with z | z
      · rw [upd_ne (by rintro rfl; exact nM z)]; exact s.dom a z
      · rw [z, upd_same]; simp
  have s0 : Sok (MD M p) env g σ (upd H p (.dT [])) := { c0 with len := s.len, slots := fun i d e => let ⟨v, h1, h2⟩ := s.slots i d e; ⟨v, h1, h2.mono lq⟩ }
  refine h (MD M p) σ _ s0 _ fun x g1 u H1 h1 t1 c1 r1 => ?_
  refine h1 (MD M p) σ H1 (s0.to t1 c1) _ fun y g2 w H2 h2 t2 c2 r2 => ?_
  obtain ⟨kk, ex, hq⟩ := h2
  subst ex
  have t12 := t1.trans t2
  have hp2 : H2 p = some (.dT []) := t12.kp p _ upd_same nG
  have np2 : p ∉ ks g2 := fun z => c2.dis p z (.inr rfl)
  obtain ⟨b, eu, hb⟩ := key_at (t2.rep c1.dom r1)
  refine ⟨hp2, b, kk, eu, hb, k _ _ _ _ (hq p np2) ⟨fun a o e n => ?_, fun a n => ?_, fun a z => ?_⟩ (cok_take c2 nM ⟨[w], rfl, rfl, .one r2⟩) rfl⟩
  · rw [upd_ne (ne_of_none e hp)]
    exact t12.kp a o (ex_new hp a o e) n
  · by_cases z : a = p
    · rw [z, upd_same]; simp
    · rw [upd_ne z]
      exact t12.th a (by rw [upd_ne z]; exact n)
  · unfold ks at z
    rw [List.map_append, List.mem_append] at z
    rcases z with z | z
    · rcases t12.nw a z with q | q
      · exact .inl q
      · by_cases e : a = p
        · rw [e]; exact .inr hp
        · rw [upd_ne e] at q; exact .inr q
    · simp at z
      rw [z]; exact .inr hp
end
section
variable {K : PySem.W.Frag} {g : G} {Ψ : D → G → Prop}
theorem inA_DT {neg : Bool} {kk : List Key} {a : Addr} {ks : List (List Key)} {xs : List D} (hm : (a, MO.dit ks xs) ∈ g) (q : Ψ (dB (if neg then !kin kk ks else kin kk ks)) g) : RD (rInA K neg) (dKey kk) (.v (.ref a)) g Ψ := rd_r (rd_l fun M H c u w ru rw Q k => by
  obtain ⟨o, h1, vs, e, hl, r⟩ := c.cells a _ hm
  subst e
  obtain ⟨b, eu, hb⟩ := key_at ru
  refine ⟨a, valV (ks.zip vs) kk, rw, ?_, ?_⟩
  · rw [eu]; exact .t h1 hb
  have e2 : (valV (ks.zip vs) kk).isSome = kin kk ks := by
    rw [← dlk_isSome (k := kk) hl]
    have := dlk_ok (k := kk) r hl
    split at this
    · rename_i d' e3
      obtain ⟨v, h1, _⟩ := this
      rw [h1, e3]; rfl
    · rename_i e3
      rw [this, e3]; rfl
  rw [e2]
  exact k _ g _ H q .refl c rfl)
theorem ixA_DT {kk : List Key} {a : Addr} {ks : List (List Key)} {xs : List D} {x : D} (hm : (a, MO.dit ks xs) ∈ g) (e : dlk ks xs kk = some x) (q : Ψ x g) : RD (rIxA K) (.v (.ref a)) (dKey kk) g Ψ := rd_r fun M H c u w ru rw Q k => by
  obtain ⟨o, h1, vs, e1, hl, r⟩ := c.cells a _ hm
  subst e1
  obtain ⟨b, eu, hb⟩ := key_at rw
  have := dlk_ok (k := kk) r hl
  rw [e] at this
  obtain ⟨v, h2, h3⟩ := this
  refine ⟨a, v, ru, ?_, k _ g _ H q .refl c h3⟩
  rw [eu, ← h2]; exact .t h1 hb
theorem ws_dputT {env : DEnv} {td ty tv : TE} {E : DE} (h : YE tv env g fun d g1 => YE td env g1 fun x g2 => YE ty env g2 fun y g3 => ∃ a ks xs k, x = .v (.ref a) ∧ y = dKey k ∧ (a, MO.dit ks xs) ∈ g3 ∧ ks.Nodup ∧ ks.length < 1000000 ∧
    E.nx env (setG g3 a (.dit (dput ks xs k d).1 (dput ks xs k d).2))) : WS (sDPut td ty tv) env g E := by
  intro M σ H s Z f
  refine h M σ H s _ fun d g1 v H1 h1 t1 c1 r1 => ?_
  refine h1 M σ H1 (s.to t1 c1) _ fun x g2 u H2 h2 t2 c2 r2 => ?_
  refine h2 M σ H2 ((s.to t1 c1).to t2 c2) _ fun y g3 w H3 h3 t3 c3 r3 => ?_
  obtain ⟨a, kk, xs, k, ex, ey, hm, nd, hl, q⟩ := h3
  subst ex ey
  obtain ⟨o, h4, vs, e4, hl4, r4⟩ := c3.cells a _ hm
  subst e4
  have rv : Rep (MM M g3) H3 d v := (t2.trans t3).rep c1.dom r1
  obtain ⟨ws, h5, h6, h7⟩ := dput_ok (k := k) r4 rv hl4 nd
  obtain ⟨c5, t5⟩ := cok_set (m' := .dit (dput kk xs k d).1 (dput kk xs k d).2) c3 hm ⟨ws, rfl, h6, h7⟩
  have t : Tr g H g3 H3 := (t1.trans t2).trans t3
  obtain ⟨b, eu, hb⟩ := key_at r3
  subst eu
  refine ⟨a, _, r2, DPut.t h4 hb (by rw [zip_len (by rw [r4.length]; exact hl4), sizeLine_eq]; omega), ?_⟩
  rw [h5]
  exact f.nx _ _ σ _ q (t.trans t5) ((s.to t c3).to t5 c5)
/-- x in a written tuple of texts -/
theorem inA_T {neg : Bool} {s : Str} {ss : List Str} {a : Addr} (ht : ∀ H, SqT K H a (ss.map V.str)) (q : Ψ (dB (if neg then !decide (s ∈ ss) else decide (s ∈ ss))) g) : RD (rInA K neg) (dS s) (.v (.ref a)) g Ψ := rd_l fun M H c u w ru rw Q k => by
  rw [show u = V.str s from ru]
  refine ⟨a, ss.map V.str, rw, .inr (ht H), rfl, flatV_strs ss, ?_⟩
  rw [inV_strs]
  exact k _ g _ H q .refl c rfl
end
end Dl
set_option Elab.async false
set_option linter.all false
set_option maxRecDepth 100000
set_option maxHeartbeats 4000000
set_option autoImplicit false
namespace Dl
open PySem PySem.Spec PyProof.Rows L2
theorem iteT' {b : Bool} {p q : Prop} (e : b = true) (h : p) : if b = true then p else q := by subst e; exact h
theorem iteF' {b : Bool} {p q : Prop} (e : b = false) (h : q) : if b = true then p else q := by subst e; exact h
/-! ### {k: v, ..} with texts as keys -/
def YP (trs : List (TE × TE)) (env : DEnv) (g : G) (Φ : List (D × D) → G → Prop) : Prop := ∀ M σ H, Sok M env g σ H → ∀ Q : List (V × V) → Hp → Prop,
  (∀ ds g' vs H', Φ ds g' → Tr g H g' H' → Cok M g' H' → Reps (MM M g') H' (ds.map (·.1)) (vs.map (·.1)) → Reps (MM M g') H' (ds.map (·.2)) (vs.map (·.2)) → Q vs H') → tPairs trs σ H Q
section
variable {env : DEnv} {g : G} {tk tv : TE} {trs : List (TE × TE)} {Φ : List (D × D) → G → Prop} {Ψ : D → G → Prop}
theorem yp_nil (h : Φ [] g) : YP [] env g Φ := fun M σ H s Q k => k [] g [] H h .refl s.toCok .nil .nil
theorem yp_cons (h : YE tk env g fun x g1 => YE tv env g1 fun y g2 => YP trs env g2 fun ds g3 => Φ ((x, y) :: ds) g3) : YP ((tk, tv) :: trs) env g Φ := fun M σ H s Q k =>
  h M σ H s _ fun x g1 u H1 h1 t1 c1 r1 => h1 M σ H1 (s.to t1 c1) _ fun y g2 w H2 h2 t2 c2 r2 => h2 M σ H2 ((s.to t1 c1).to t2 c2) _ fun ds g3 vs H3 h3 t3 c3 ra rb =>
    k _ g3 ((u, w) :: vs) H3 h3 ((t1.trans t2).trans t3) c3 (.cons ((t2.trans t3).rep c1.dom r1) ra) (.cons (t3.rep c2.dom r2) rb)
theorem putK_fresh {κ : Type} [DecidableEq κ] {kvs : List (κ × V)} {k : κ} {v : V} (h : k ∉ kvs.map (·.1)) : putK kvs k v = kvs ++ [(k, v)] := by
  unfold putK
  rw [if_neg]
  simp only [List.any_eq_true, decide_eq_true_eq, not_exists, not_and]
  exact fun p hp e => h (List.mem_map.mpr ⟨p, hp, e⟩)
theorem mergeK_fresh : ∀ {more kvs : List (Key × V)}, ((kvs ++ more).map (·.1)).Nodup → mergeK kvs more = kvs ++ more
  | [], kvs, _ => by rw [List.append_nil]; rfl
  | (k, v) :: more, kvs, nd => by
    show mergeK (putK kvs k v) more = _
    have h1 : k ∉ kvs.map (·.1) := fun z => by
      rw [List.map_append, List.map_cons] at nd
      exact (List.nodup_append.mp nd).2.2 k z k (by simp) rfl
    rw [putK_fresh h1, mergeK_fresh (by rw [List.append_assoc]; exact nd), List.append_assoc]
    rfl
theorem ye_disp (h : YP trs env g fun ds g1 => ∃ ks xs, ds = (List.zip ks xs).map (fun p => (D.v (kV p.1), p.2)) ∧ ks.Nodup ∧ ks.length = xs.length ∧ ks.length ≤ 15 ∧ Ψ (.dic ks xs) g1) : YE (tFrz (tDisp trs)) env g Ψ := by
  refine ye_frz ?_
  intro M σ H s Q k p hp
  have nM : ¬ M p := fun z => s.dom p z hp
  have nG : p ∉ Dl.ks g := fun z => new_rep s.toCok hp (.inr z)
  have lq : Leq (MM M g) (MM (MD M p) g) H (upd H p (.dK [])) := .of (fun a o n e => by rw [upd_ne (ne_of_none e hp)]; exact e) fun a n e z => by
    rcases z with (z | z) | z
    · exact n (.inl z)
    · subst z; exact e hp
    · exact n (.inr z)
  have c0 : Cok (MD M p) g (upd H p (.dK [])) := by
    refine ⟨fun a m hm => ?_, s.nd, fun a z => ?_, fun a h z => z.elim (s.dis a h) (by rintro rfl; exact nG h)⟩
    · obtain ⟨o, h1, h2⟩ := s.cells a m hm
      exact ⟨o, ex_new hp a o h1, h2.mono lq⟩
    · rcases z with z | z
      · rw [upd_ne (by rintro rfl; exact nM z)]; exact s.dom a z
      · rw [z, upd_same]; simp
  have s0 : Sok (MD M p) env g σ (upd H p (.dK [])) := { c0 with len := s.len, slots := fun i d e => let ⟨v, h1, h2⟩ := s.slots i d e; ⟨v, h1, h2.mono lq⟩ }
  refine h (MD M p) σ _ s0 _ fun ds g1 vs H2 h2 t12 c2 ra rb => ?_
  obtain ⟨ks, xs, e, nd, hl, h15, hq⟩ := h2
  have hp2 : H2 p = some (.dK []) := t12.kp p _ upd_same nG
  have np2 : p ∉ Dl.ks g1 := fun z => c2.dis p z (.inr rfl)
  have e1 : ds.map (·.1) = (ks.map kV).map D.v := by
    rw [e, List.map_map, List.map_map, show ((fun x : D × D => x.1) ∘ fun p : Key × D => (D.v (kV p.1), p.2)) = (fun k => D.v (kV k)) ∘ (·.1) from rfl, ← List.map_map, List.map_fst_zip (by omega)]; rfl
  have e2 : ds.map (·.2) = xs := by
    rw [e, List.map_map, show ((fun x : D × D => x.2) ∘ fun p : Key × D => (D.v (kV p.1), p.2)) = (·.2) from rfl, List.map_snd_zip (by omega)]
  rw [e1] at ra
  rw [e2] at rb
  have ea := ra.flat
  have hlv : vs.length = ks.length := by
    have := congrArg List.length ea
    simpa using this
  have evs : vs = (ks.zip (vs.map (·.2))).map fun kv => (kV kv.1, kv.2) := by
    apply List.ext_getElem
    · simp [hlv]
    · intro i h1 h2
      have h3 : (vs.map (·.1))[i]'(by simpa using h1) = (ks.map kV)[i]'(by simpa [hlv] using h1) := by simp only [ea]
      simp only [List.getElem_map] at h3
      simp only [List.getElem_map, List.getElem_zip]
      rw [← h3]
  have hz : (ks.zip (vs.map (·.2))).map (·.1) = ks := List.map_fst_zip (by simp [hlv])
  have em : mergeK [] (ks.zip (vs.map (·.2))) = ks.zip (vs.map (·.2)) := by
    rw [mergeK_fresh (by rw [List.nil_append, hz]; exact nd), List.nil_append]
  refine ⟨hp2, ks.zip (vs.map (·.2)), evs, ?_, ?_⟩
  · rw [List.length_zip]; omega
  rw [em]
  refine k _ _ _ _ ⟨p, g1, ks, xs, rfl, rfl, hq⟩ ⟨fun a o e n => ?_, fun a n => ?_, fun a z => ?_⟩ (cok_take c2 nM ⟨_, rfl, hl, rb⟩) rfl
  · rw [upd_ne (ne_of_none e hp)]
    exact t12.kp a o (ex_new hp a o e) n
  · by_cases z : a = p
    · rw [z, upd_same]; simp
    · rw [upd_ne z]
      exact t12.th a (by rw [upd_ne z]; exact n)
  · unfold Dl.ks at z
    rw [List.map_append, List.mem_append] at z
    rcases z with z | z
    · rcases t12.nw a z with q | q
      · exact .inl q
      · by_cases e : a = p
        · rw [e]; exact .inr hp
        · rw [upd_ne e] at q; exact .inr q
    · simp at z
      rw [z]; exact .inr hp
end
end Dl
set_option Elab.async false
set_option linter.all false
set_option maxRecDepth 100000
set_option maxHeartbeats 4000000
set_option autoImplicit false
namespace Dl
open PySem PySem.Spec PyProof.Rows L2 NdefX
/-! ### a def whose first statement is super().__init__(..) -/
structure SupD (P : Program) (K : PySem.W.Frag) (name qual : Str) (params : Arguments) (body : List Stmt) (scope : Scope) (C f2 f : Addr) (fd : FuncData) : Prop where
  ex : ∃ (cc cda : Addr) (oc : Value) (od : Option Addr) (dV kV doc pm : Value) (an : Option Addr) (ctv : Value) (osl : Array (Option Value)),
    fd = PySem.W.fnX name qual params body scope [("__class__", cc)] dV kV doc pm an (.ref cda) ctv ∧ K.lookup f = some ⟨oc, od, .func fd, osl⟩ ∧ PySem.W.codeIn K (.ref cda) qual = true ∧
    (∃ (ccl : Value) (cdd : Option Addr) (vs : Array Value) (ccs : Array (Option Value)) (file : Str) (tf : Tok), K.lookup cda = some ⟨ccl, cdd, .fields vs, ccs⟩ ∧ vs[2]? = some (.str file tf) ∧ ((P.main.file : Str) == file) = true) ∧
    (∃ (cl : Value) (cld : Option Addr) (csl : Array (Option Value)), K.lookup cc = some ⟨cl, cld, .cell (some (.ref C)), csl⟩)
  cd : ∃ cd, PySem.W.clsIn K C = some cd
  sub : PySem.W.mroIn K C (.ref C) = some true
  sup : PySem.W.ks_superIn K C C "__init__" = some (some (.ref f2))
  ty : PySem.W.typeIn K (.ref f2) = some (.type "function")
  fn : PySem.W.fnIn K f2 = true
  any : PySem.W.nsIn K cStatics "thirdparty.any" = some none
  top : (P.main.scope.names.lookup ("super" : Str)).isSome = false
def tSup (C : Addr) (sp : Sp) (ta : TA) : TS := fun D σ H => ∃ a dx fs, σ[0]? = some (some (.ref a)) ∧ H a = some (.ins C dx fs) ∧ ta σ H fun vs H1 => sp (.ref a :: vs) H1 (fun _ H2 => D.nx σ H2) fun _ _ _ => False
abbrev clsName : Str := "__class__"
theorem lookup_one {a b : Str} {c d : Addr} (h : List.lookup b [(a, c)] = some d) : b = a ∧ d = c := by
  unfold List.lookup at h
  split at h
  · rename_i e
    cases h
    exact ⟨by simpa using e, rfl⟩
  · cases h
theorem fn_super {P : Program} {w : World} {K : PySem.W.Frag} {mg : Str → Option Value} {base : Heap} {name qual self : Str} {params : Arguments} {rest : List Stmt} {scope : Scope} {C f2 f : Addr} {fd fd2 : FuncData} {N ps ps2 : List Str} {k k2 : Nat} {sp sp2 : Sp} {e1 : Expr} {es : List Expr} {ar : Arg} {p0 p1 apos cpos epos : Pos}
    (F : SupD P K name qual params (.Expr (.Call (.Attribute (.Call (.Name "super" p0) [] [] p1) "__init__" apos) (e1 :: es) [] cpos) epos :: rest) scope C f2 f fd)
    (S : NScope N (self :: ps) [clsName] scope) (hsup : mg "super" = none) (hks : scope.names.lookup ("super" : Str) = some .globalImplicit) (har : (params.posonlyargs ++ params.args).head? = some ar) (hsl : ar.arg = self)
    (len : ∀ vs H Q E, sp vs H Q E → vs.length = (self :: ps).length)
    (F2 : FnOk P w K mg base CX0 k2 f2 fd2 ps2 sp2) (hb2 : Binds K fd2 ps2 []) (hk2 : k2 ≤ k)
    (hbody : ∀ (cda cc : Addr) (A : Around) (outer : List Env) (s : Shared) (H : Hp) (E : XK), Room k (A.deeper (PySem.W.envX qual scope s.heap.objs.size f (.ref cda) [(clsName, cc)])) →
      ∃ ta t, PA (ncx CX0 P w K mg base N ⟨name, qual, params, .Expr (.Call (.Attribute (.Call (.Name "super" p0) [] [] p1) "__init__" apos) (e1 :: es) [] cpos) epos :: rest, scope, [(clsName, cc)], cda⟩ f A outer s H E) (e1 :: es) ta ∧
        PSs (ncx CX0 P w K mg base N ⟨name, qual, params, .Expr (.Call (.Attribute (.Call (.Name "super" p0) [] [] p1) "__init__" apos) (e1 :: es) [] cpos) epos :: rest, scope, [(clsName, cc)], cda⟩ f A outer s H E) rest t ∧
        ∀ vs Q, sp vs H Q E → tSeq (tSup C sp2 ta) t { nx := fun _ H' => Q .non H', rt := Q } (start N vs) H)
    (hst : ∀ X : Env, starEach (e1 :: es) X = (false, eval e1 X) :: starEach es X) (hpl : ∀ X : Env, (backTo cpos (starEach es X)).any (·.1) = false)
    (ht : ∀ env : Env, ∃ pl : Sem Bool, eval (.Call (.Attribute (.Call (.Name "super" p0) [] [] p1) "__init__" apos) (e1 :: es) [] cpos) env = (do
      let ov ← attributeBase (.Call (.Name "super" p0) [] [] p1) "__init__" env (eval (.Call (.Name "super" p0) [] [] p1) env)
      standAt apos.atName
      let (f, first) ← holding [ov] (getMethod ov "__init__" pl)
      callWith cpos f first (backTo cpos (starEach (e1 :: es) env)) []))
    (hint : ∀ env : Env, env.scope = scope → interactive env = false) (hsw : ∀ env : Env, swapsWith (.Call (.Attribute (.Call (.Name "super" p0) [] [] p1) "__init__" apos) (e1 :: es) [] cpos) none epos.line env = pure false) :
    FnOk P w K mg base CX0 (k + 1) f fd (self :: ps) sp := by
  obtain ⟨⟨cc, cda, oc, od, dV, kV, doc, pm, an, ctv, osl, rfl, lk, hcd, ⟨ccl, cdd, cvs, ccs, file, tf, hcode, hvs, hfile⟩, cl, cld, csl, hcell⟩, ⟨cd, hcls⟩, hsub, hsi, hty, hfn2, hany, htop⟩ := F
  refine ⟨len, fun A outer s H args us vs Q E hr e0 hb r hsp => ?_⟩
  have hl := len _ _ _ _ hsp
  have KX : K.In s.heap := e0.mod.kin.keeps fun b o e => (e0.bs b o e).1
  have lim : s.heap.NoLimit := e0.mod.nolimit.keeps fun b o e => (e0.bs b o e).1
  refine codeAny_call_function hr.depth (KX _ _ lk) rfl S.co S.gen rfl (PySem.W.codeRec_of KX hcd) (hb _ _ _ _ ?_)
  refine wpAny_newFunctionEnv S.nocell (fun ⟨n, _⟩ hy => S.par n (List.of_mem_zip hy).1) (fun h₁ hns hsb => ⟨lim.fresh _ hsb, ?_⟩) S.kind
  have kp : ∀ b o, s.heap.get? b = some o → h₁.get? b = some o := fun b o e => hsb.extBut b o (Nat.ne_of_lt (Heap.lt_size e)) (Heap.get?_push_of_some _ e)
  obtain ⟨ta, t, hpa, hps, hq⟩ := hbody cda cc A outer s H E (hr.deeper _)
  have CA : CellsAt [(clsName, cc)] [clsName] [none] s.heap H := by
    refine ⟨rfl, fun y c e => ?_, fun x y c e1 e2 => (lookup_one e1).1.trans (lookup_one e2).1.symm, fun i y e => ?_⟩
    · obtain ⟨_, rfl⟩ := lookup_one e
      exact ⟨(e0.bs _ _ (e0.mod.kin _ _ hcell)).2, _, _, KX _ _ hcell, rfl⟩
    · cases i with
      | zero =>
        simp at e
        subst e
        exact ⟨cc, by simp [List.lookup], fun v z => by simp at z⟩
      | succ i => simp at e
  have hst0 : startF N vs [none] = start N vs := by
    have hN : vs.length + 1 ≤ N.length := by
      have q := congrArg List.length S.pre
      rw [List.length_take, List.length_append] at q
      simp only [List.length_cons, List.length_nil] at q hl
      omega
    show vs.map some ++ ([none] ++ List.replicate (N.length - vs.length - 1) none) = vs.map some ++ List.replicate (N.length - vs.length) none
    rw [show N.length - vs.length = (N.length - vs.length - 1) + 1 by omega, List.replicate_succ]; rfl
  generalize hNF : (⟨name, qual, params, .Expr (.Call (.Attribute (.Call (.Name "super" p0) [] [] p1) "__init__" apos) (e1 :: es) [] cpos) epos :: rest, scope, [(clsName, cc)], cda⟩ : NF) = NFv at hpa hps
  have I : Inv (ncx CX0 P w K mg base N NFv f A outer s H E) [] (startF N vs [none]) H { s with heap := h₁, toks := s.toks + ((self :: ps).zip us).length } := by
    subst hNF
    exact inv_startN S hr.hd e0 hl r CA hns kp
  rw [hst0] at I
  replace hq := hq vs Q hsp
  obtain ⟨a, dx, fs, h0, ha, hq2⟩ := hq
  have hq0 := hq2
  refine ks_codeAny_funcAt ?_
  have hE : (envF NFv f s.heap.objs.size) = PySem.W.envX qual scope s.heap.objs.size f (.ref cda) [(clsName, cc)] := by subst hNF; rfl
  have hkc : scope.names.lookup ("__class__" : Str) = some .free := S.frk _ (by simp)
  refine ks_wpAt_execs_cons (ks_wpAt_Expr_any ?_ (hint _ rfl) (hsw _))
  obtain ⟨pl, hev⟩ := ht (PySem.W.envX qual scope s.heap.objs.size f (.ref cda) [(clsName, cc)])
  refine ks_wpAt_MethodCall (pl := pl) ?_ hev
  have KI : K.In h₁ := I.kIn
  obtain ⟨oD, hD1, hD2⟩ : ∃ oD, h₁.get? C = some oD ∧ oD.data = .cls cd := by
    unfold PySem.W.clsIn at hcls
    split at hcls
    · rename_i c d cd' sl ho
      cases hcls
      exact ⟨_, KI _ _ ho, rfl⟩
    · cases hcls
  have hNFs : NFv.scope = scope := by subst hNF; rfl
  obtain ⟨mb, hb1, hb2'⟩ := I.mod.blt
  obtain ⟨ml, hml, hlook⟩ := I.loc
  have hself : ml self = some (.ref a) := by
    have hN0 : N[0]? = some self := by
      have q := S.pre
      cases N with
      | nil => simp at q
      | cons n N => simp at q; simp [q.1]
    have hloc : scope.names.lookup self = some .local := S.par self (by simp)
    obtain ⟨u, ru, lu⟩ := hlook 0 self (.ref a) hN0 h0 (.inl (by show NFv.scope.names.lookup self = _; rw [hNFs]; exact hloc))
    obtain rfl : u = Value.ref a := ru
    rcases lu with ⟨_, e⟩ | ⟨e, _⟩
    · exact e
    · have hl' : NFv.scope.names.lookup self = some .local := by rw [hNFs]; exact hloc
      rcases e with e | e
      · have e' : NFv.scope.names.lookup self = some .cell := e
        rw [hl'] at e'; cases e'
      · have e' : NFv.scope.names.lookup self = some .free := e
        rw [hl'] at e'; cases e'
  have hmlx : h₁.Ns s.heap.objs.size ml := hml
  refine ks_wpAt_super_base (env := PySem.W.envX qual scope s.heap.objs.size f (.ref cda) [(clsName, cc)]) hks hkc (by decide +kernel) rfl (KI _ _ lk) rfl har rfl (KI _ _ hcode) rfl hvs hfile htop ?_
  refine PySem.W.ks_loadName_global S.kind hks (Calls.loadGlobal_builtin (mg := mg) ?_ hsup ?_ ((hb2' _ (by decide)).trans (by rfl)) ⟨rfl, ?_⟩)
  · exact I.mod.glob.keeps I.bk
  · exact hb1.keeps I.bk
  refine wpAny_loadName_free S.kind hkc rfl ⟨_, KI _ _ hcell, rfl⟩ ?_
  refine wpAny_loadName_local S.kind (show scope.names.lookup ar.arg = _ by rw [hsl]; exact S.par self (by simp)) hmlx (by rw [hsl]; exact hself) ?_
  refine ks_wpAny_isType_cls hD1 hD2 ⟨rfl, ?_⟩
  obtain ⟨mA, O, rO, _, _, _⟩ := ins_get I.hok ha
  obtain ⟨odx, J, _⟩ := O.look
  refine ks_wpAny_call_super hD1 hD2 J.at_ J.cls (fun c e => ?_) (PySem.W.looks_mroIn KI hsub) (fun h' e k => ?_)
  · have := J.no
    unfold PySem.W.notCls at this
    rw [e] at this
    exact Bool.noConfusion this
  have hxC : a ≠ C := PySem.W.ks_ne KI J hcls
  have I1 := I.kept (h' := h') (t' := s.toks + ((self :: ps).zip us).length) k
  have KI1 : K.In h' := I1.kIn
  have hm : PySem.W.alongIn K "__init__" ((cd.mro.dropWhile (· != .ref C)).drop 1) = some (some (.ref f2)) := by
    unfold PySem.W.ks_superIn at hsi
    rw [hcls] at hsi
    exact hsi
  obtain ⟨of, hof, hofc⟩ : ∃ of, h'.get? f2 = some of ∧ of.cls = .type "function" := by
    have ht' : (K.lookup f2).map (·.cls) = some (.type "function") := hty
    cases z : K.lookup f2 with
    | none => rw [z] at ht'; cases ht'
    | some of => rw [z] at ht'; exact ⟨of, KI1 _ _ z, Option.some.inj ht'⟩
  refine ks_wpAny_getMethod_super (so := h₁.objs.size) (D := C) (x := a) (C := C) (f := f2) (K := K) e (PySem.W.looks_opaque KI1 hany) (l₀ := cd.mro) ?_ rfl KI1 hm hof hofc hxC (by decide +kernel) ?_
  · exact fun A Q E s k q => wpAny_bind ((PySem.W.looks_clsIn KI1 hcls) A _ E s k (wpAny_pure q))
  have I2 := ClX.pin_new (o := PySem.W.methodObj (.ref f2) (.ref a)) (h' := h'.push (PySem.W.methodObj (.ref f2) (.ref a))) (a := h'.objs.size) (t' := s.toks + ((self :: ps).zip us).length + 1) I1 (fun _ _ z => Heap.get?_push_of_some _ z) (Nat.le_refl _) (Heap.get?_push_size h' rfl) (fun v z => nomatch z)
  have hL := (I2.pin (h'.objs.size, PySem.W.methodObj (.ref f2) (.ref a)) (List.mem_append_right _ List.mem_cons_self)).2.2.1
  have hbn : base.get? h'.objs.size = none := ClX.base_none I1 (Nat.le_refl _)
  refine PySem.W.callWith_M (K := K) (h₀ := base) (first := []) I.ok.mod.kin (news_at hL hbn (ClX.pin_at I2)) List.mem_cons_self hfn2 ?_ (hst _) (hpl _)
  subst hNF
  refine thn (hpa.run cpos _ _ _ H _ I2 hq0) fun us2 s2 ⟨vs2, H2, I3, r3, q3⟩ => ⟨⟨ClX.pin_at I3, I3.kIn⟩, ?_⟩
  have r4 : Vals (.ref a :: vs2) (Value.ref a :: us2) := .cons rfl r3
  have hl2 : (Value.ref a :: us2).length = ps2.length := by rw [← r4.length]; exact F2.len _ _ _ _ q3
  have hbn2 : BindsTo s2 fd2 ⟨Value.ref a :: us2, []⟩ (ps2.zip (Value.ref a :: us2)) := by
    have := hb2 s2 (Value.ref a :: us2) I3.kIn (by rw [List.append_nil]; exact hl2)
    rwa [List.append_nil] at this
  have hrm : Room k2 (A.deeper (PySem.W.envX qual scope s.heap.objs.size f (.ref cda) [(clsName, cc)])) := (hr.deeper _).mono hk2
  have z := wpAny_call (E := (ncx CX0 P w K mg base N ⟨name, qual, params, .Expr (.Call (.Attribute (.Call (.Name "super" p0) [] [] p1) "__init__" apos) (e1 :: es) [] cpos) epos :: rest, scope, [(clsName, cc)], cda⟩ f A outer s H E).xe) (PySem.W.method_call (ClX.pin_at I3) (codeAny_mono (F2.run _ _ s2 H2 ⟨.ref a :: us2, []⟩ (.ref a :: us2) (.ref a :: vs2) _ _ hrm I3.env0 hbn2 r4 q3) fun r s' hq => (show wants (EP _ _ _ _) _ r s' from by
    cases r with
    | error e => exact pass0 _ _ _ _ e s' I3 hq
    | ok fl =>
      cases fl with
      | ret u => exact I3.after hq
      | next => exact False.elim hq
      | brk => exact False.elim hq
      | cont => exact False.elim hq)))
  refine thn z fun u s' y => ?_
  obtain ⟨v, H3, I4, r5, q5⟩ := ClX.unpinE y
  refine wpAt_of_wpAny (wpAny_mono (hps.run [] s' _ H3 _ I4 q5) (fun fl s4 hs => ?_) fun e s' hs => hs)
  have fin : ∀ {σ' : L2.St} {H' : Hp} {v : V} {u : Value}, Inv (ncx CX0 P w K mg base N ⟨name, qual, params, .Expr (.Call (.Attribute (.Call (.Name "super" p0) [] [] p1) "__init__" apos) (e1 :: es) [] cpos) epos :: rest, scope, [(clsName, cc)], cda⟩ f A outer s H E) [] σ' H' s4 → L2.RelV v u → Q v H' → CE outer P w H s Q u s4 :=
    fun {σ' H' v u} J rv q => ⟨v, H', J.os, J.bare, J.base, J.hok, rv, q⟩
  cases fl with
  | ret u =>
    obtain ⟨v, σ', H', J, rv, q⟩ := hs
    exact fin J rv q
  | next =>
    obtain ⟨σ', H', J, q⟩ := hs
    exact fin (v := V.non) (u := Value.none) J rfl q
  | brk =>
    obtain ⟨_, _, _, q⟩ := hs
    exact False.elim q
  | cont =>
    obtain ⟨_, _, _, q⟩ := hs
    exact False.elim q
end Dl
set_option Elab.async false
set_option linter.all false
set_option maxRecDepth 100000
set_option maxHeartbeats 4000000
set_option autoImplicit false
namespace Dl
open PySem PySem.Spec PyProof.Rows L2 NdefX
theorem putF_set : ∀ {ns : List Str} {vs : List V} {f : Str} {v : V} {i : Nat}, ns[i]? = some f → ns.Nodup → ns.length = vs.length → putF f v (ns.zip vs) = ns.zip (vs.set i v)
  | [], _, f, v, i, h, _, _ => by simp at h
  | n :: ns, [], f, v, i, _, _, hl => by simp at hl
  | n :: ns, w :: vs, f, v, 0, h, nd, hl => by
    simp at h
    subst h
    rw [List.zip_cons_cons]
    unfold putF
    rw [if_pos rfl]; rfl
  | n :: ns, w :: vs, f, v, i + 1, h, nd, hl => by
    have h2 : ns[i]? = some f := by simpa using h
    have ne : ¬ n = f := fun z => (List.nodup_cons.mp nd).1 (z ▸ List.mem_of_getElem? h2)
    rw [List.zip_cons_cons]
    unfold putF
    rw [if_neg ne, putF_set h2 (List.nodup_cons.mp nd).2 (by simpa using hl)]; rfl
section
variable {K : PySem.W.Frag} {env : DEnv} {g : G} {te ta tb tv : TE} {tr : TA} {Ψ : D → G → Prop} {E : DE}
theorem ws_fldO {f : Str} (h : YE tv env g fun d g1 => YE ta env g1 fun x g2 => ∃ a C ns xs i, x = .v (.ref a) ∧ (a, MO.obj C ns xs) ∈ g2 ∧ Cls K C ∧ NoAttr K C f ∧ ns[i]? = some f ∧ ns.Nodup ∧ ns.length < 100 ∧ E.nx env (setG g2 a (.obj C ns (xs.set i d)))) : WS (sFld K ta tv f) env g E := fun M σ H s Z k =>
  h M σ H s _ fun d g1 v H1 h1 t1 c1 r1 => h1 M σ H1 (s.to t1 c1) _ fun x g2 u H2 ⟨a, C, ns, xs, i, ex, hm, hc, hn, hf, nd, hl, q⟩ t2 c2 r2 => by
    subst ex
    obtain ⟨o, h3, dx, vs, e, hl2, r3⟩ := c2.cells a _ hm
    subst e
    have hv : ns.length = vs.length := by rw [r3.length]; exact hl2
    have r4 : MRep (MM M g2) H2 (.obj C ns (xs.set i d)) (.ins C dx (putF f v (ns.zip vs))) := ⟨dx, vs.set i v, by rw [putF_set hf nd hv], by simp [hl2], Reps.set i (t2.rep c1.dom r1) r3⟩
    obtain ⟨c3, t3⟩ := cok_set c2 hm r4
    exact ⟨a, C, dx, _, r2, h3, hc, hn, by rw [zip_len hv]; omega, k.nx _ _ σ _ q ((t1.trans t2).trans t3) ((s.to (t1.trans t2) c2).to t3 c3)⟩
theorem ws_sup {C : Addr} {R : RS} {a : Addr} {ns : List Str} {xs : List D} (ha : env[0]? = some (some (.v (.ref a)))) (hm : (a, MO.obj C ns xs) ∈ g) (h : YA tr env g fun ds g1 => ∃ gc gr, g1 = gc ++ gr ∧ R.r (.v (.ref a) :: ds) gc fun d g' => E.nx env (g' ++ gr)) :
    WS (tSup C (spR R) tr) env g E := fun M σ H s Z f => by
  obtain ⟨v, h1, r⟩ := s.slots 0 _ ha
  obtain rfl : v = V.ref a := r
  obtain ⟨o, h2, dx, vs, e, hl, r2⟩ := s.cells a _ hm
  subst e
  refine ⟨a, dx, _, h1, h2, h M σ H s _ fun ds g1 us H1 ⟨gc, gr, eg, h3⟩ t1 c1 r1 => ?_⟩
  subst eg
  exact call_core (Ψ := fun d g' => E.nx env g') c1 (Reps.cons (d := .v (.ref a)) (v := .ref a) rfl r1) h3 (fun d g' v H' q t c r => f.nx env g' σ H' q (t1.trans t) (s.to (t1.trans t) c)) _
end
theorem okS {P : Program} {w : World} {K : PySem.W.Frag} {mg : Str → Option Value} {base : Heap} {name qual self : Str} {params : Arguments} {rest : List Stmt} {scope : Scope} {C f2 f : Addr} {fd fd2 : FuncData} {N ps ps2 : List Str} {k k2 : Nat} {R : RS} {sp2 : Sp} {e1 : Expr} {es : List Expr} {ar : Arg} {p0 p1 apos cpos epos : Pos}
    (F : SupD P K name qual params (.Expr (.Call (.Attribute (.Call (.Name "super" p0) [] [] p1) "__init__" apos) (e1 :: es) [] cpos) epos :: rest) scope C f2 f fd)
    (S : NScope N (self :: ps) [clsName] scope) (hsup : mg "super" = none) (hks : scope.names.lookup ("super" : Str) = some .globalImplicit) (har : (params.posonlyargs ++ params.args).head? = some ar) (hsl : ar.arg = self)
    (hlen : ∀ ds g Q, R.r ds g Q → ds.length = (self :: ps).length)
    (F2 : FnOk P w K mg base CX0 k2 f2 fd2 ps2 sp2) (hb2 : Binds K fd2 ps2 []) (hk2 : k2 ≤ k)
    (hbody : ∀ (cda cc : Addr) (A : Around) (outer : List Env) (s : Shared) (H : Hp) (E : XK), Room k (A.deeper (PySem.W.envX qual scope s.heap.objs.size f (.ref cda) [(clsName, cc)])) →
      ∃ ta t, PA (ncx CX0 P w K mg base N ⟨name, qual, params, .Expr (.Call (.Attribute (.Call (.Name "super" p0) [] [] p1) "__init__" apos) (e1 :: es) [] cpos) epos :: rest, scope, [(clsName, cc)], cda⟩ f A outer s H E) (e1 :: es) ta ∧
        PSs (ncx CX0 P w K mg base N ⟨name, qual, params, .Expr (.Call (.Attribute (.Call (.Name "super" p0) [] [] p1) "__init__" apos) (e1 :: es) [] cpos) epos :: rest, scope, [(clsName, cc)], cda⟩ f A outer s H E) rest t ∧
        ∀ ds g Q, R.r ds g Q → WS (tSeq (tSup C sp2 ta) t) (startD N ds) g ⟨fun _ g' => Q (.v .non) g', Q, fun _ _ => False, fun _ _ => False⟩)
    (hst : ∀ X : Env, starEach (e1 :: es) X = (false, eval e1 X) :: starEach es X) (hpl : ∀ X : Env, (backTo cpos (starEach es X)).any (·.1) = false)
    (ht : ∀ env : Env, ∃ pl : Sem Bool, eval (.Call (.Attribute (.Call (.Name "super" p0) [] [] p1) "__init__" apos) (e1 :: es) [] cpos) env = (do
      let ov ← attributeBase (.Call (.Name "super" p0) [] [] p1) "__init__" env (eval (.Call (.Name "super" p0) [] [] p1) env)
      standAt apos.atName
      let (f, first) ← holding [ov] (getMethod ov "__init__" pl)
      callWith cpos f first (backTo cpos (starEach (e1 :: es) env)) []))
    (hint : ∀ env : Env, env.scope = scope → interactive env = false) (hsw : ∀ env : Env, swapsWith (.Call (.Attribute (.Call (.Name "super" p0) [] [] p1) "__init__" apos) (e1 :: es) [] cpos) none epos.line env = pure false) :
    FnOk P w K mg base CX0 (k + 1) f fd (self :: ps) (spR R) :=
  fn_super F S hsup hks har hsl (fun vs H Q E ⟨M, g, ds, c, r, h⟩ => by rw [r.length]; exact hlen _ _ _ h) F2 hb2 hk2
    (fun cda cc A outer s H E hr => by
      obtain ⟨ta, t, ha, hs, hd⟩ := hbody cda cc A outer s H E hr
      refine ⟨ta, t, ha, hs, fun vs Q ⟨M, g, ds, c, r, h⟩ => ?_⟩
      exact hd ds g _ h M _ H (sok_start c r) _ ⟨fun e' g' σ' H' q t' s' => q _ _ t' s'.toCok rfl, fun d g' v H' q t' c' r' => q v H' t' c' r', fun _ _ _ _ z => z.elim, fun _ _ _ _ z => z.elim⟩) hst hpl ht hint hsw
end Dl
namespace Dl
open PySem PySem.Spec PyProof.Rows L2
section
variable {K : PySem.W.Frag} {g : G} {Ψ : D → G → Prop}
theorem inA_TF {s : Str} {ss : List Str} {a : Addr} (ht : ∀ H, SqT K H a (ss.map V.str)) (q : Ψ (dB (decide (s ∈ ss))) g) : RD (rInA K false) (dS s) (.v (.ref a)) g Ψ := inA_T (neg := false) ht q
theorem inA_TT {s : Str} {ss : List Str} {a : Addr} (ht : ∀ H, SqT K H a (ss.map V.str)) (q : Ψ (dB (!decide (s ∈ ss))) g) : RD (rInA K true) (dS s) (.v (.ref a)) g Ψ := inA_T (neg := true) ht q
theorem inA_2F {s a b : Str} (q : Ψ (dB (decide (s ∈ [a, b]))) g) : RD (rInA K false) (dS s) (.tup [dS a, dS b]) g Ψ := inA_L (neg := false) (ss := [a, b]) (.t _) rfl q
theorem inA_2T {s a b : Str} (q : Ψ (dB (!decide (s ∈ [a, b]))) g) : RD (rInA K true) (dS s) (.tup [dS a, dS b]) g Ψ := inA_L (neg := true) (ss := [a, b]) (.t _) rfl q
theorem inA_SF {c : Nat} {z : Str} (q : Ψ (dB (decide (c ∈ z.cps.toList))) g) : RD (rInA K false) (dS ⟨#[c]⟩) (dS z) g Ψ := inA_S (neg := false) q
theorem inA_ST {c : Nat} {z : Str} (q : Ψ (dB (!decide (c ∈ z.cps.toList))) g) : RD (rInA K true) (dS ⟨#[c]⟩) (dS z) g Ψ := inA_S (neg := true) q
end
theorem ws_via {ts tz : TS} {env : DEnv} {g : G} {E : DE} (P : DEnv → G → Prop) (h1 : WS ts env g ⟨P, E.rt, E.bk, E.ct⟩) (h2 : ∀ e g, P e g → WS tz e g E) : WS (tSeq ts tz) env g E := ws_seq (h1.mono h2 (fun _ _ h => h) (fun _ _ h => h) (fun _ _ h => h))
end Dl
set_option Elab.async false
set_option linter.all false
set_option maxRecDepth 100000
set_option maxHeartbeats 4000000
set_option autoImplicit false
namespace Dl
open PySem PySem.Spec PyProof.Rows L2
/-! ### code that wants at least one token -/
def tGuard (m : Nat) (t : TS) : TS := fun D σ H => 1 ≤ m ∧ t D σ H
theorem psn_guard {X : Cx} {m : Nat} {rest : List Stmt} {t : TS} (h : 1 ≤ m → PSsn m X rest t) : PSsn m X rest (tGuard m t) := ⟨fun pins s σ H D hn I hw => (h hw.1).run pins s σ H D hn I hw.2⟩
theorem ws_guard {m i : Nat} {xs : List D} {w c : Str} {t : TS} {env : DEnv} {g : G} {E : DE} (hi : env[i]? = some (some (.lst xs))) (hr : D.raw m w c ∈ xs) (h : 1 ≤ m → WS t env g E) : WS (tGuard m t) env g E := fun M σ H s Z f => by
  obtain ⟨v, h1, r⟩ := s.slots i _ hi
  obtain ⟨a, vs, _, _, _, q⟩ := r
  obtain ⟨j, hj⟩ := List.getElem?_of_mem hr
  obtain ⟨v2, _, r2⟩ := q.get hj
  obtain ⟨a2, _, _, o, u, t2, k, _, _, _, _, lt⟩ := r2
  have hm : 1 ≤ m := Nat.lt_of_le_of_lt (Nat.zero_le t2) lt
  exact ⟨hm, h hm M σ H s Z f⟩
/-! ### walks over pairs of answers -/
section
variable {S : Type} [DecidableEq S]
theorem nodup_inj {α β : Type} {f : α → β} (hf : ∀ a b, f a = f b → a = b) {l : List α} (h : l.Nodup) : (l.map f).Nodup := List.Pairwise.map _ (fun a b h e => h (hf _ _ e)) h
theorem setG_two_l {a b : Addr} {m m' n : MO} (h : a ≠ b) : setG [(a, m), (b, n)] a m' = [(a, m'), (b, n)] := by
  unfold setG; simp [Ne.symm h]
theorem setG_two_r {a b : Addr} {m n n' : MO} (h : a ≠ b) : setG [(a, m), (b, n)] b n' = [(a, m), (b, n')] := by
  unfold setG; simp [h]
end
end Dl
set_option Elab.async false
set_option linter.all false
set_option maxRecDepth 100000
set_option maxHeartbeats 4000000
set_option autoImplicit false
namespace Dl
open PySem PySem.Spec PyProof.Rows L2
/-! ### zip of two lists -/
section
variable {K : PySem.W.Frag}
def pairD (p : D × D) : D := .tup [p.1, p.2]
theorem goes_zip {M : Addr → Prop} {g : G} {H : Hp} {a b : Addr} {vs ws : List V} {xs ys : List D} (na : ¬ MM M g a) (nb : ¬ MM M g b) (ha : H a = some (.lst vs)) (hb : H b = some (.lst ws)) (rx : Reps (MM M g) H xs vs) (ry : Reps (MM M g) H ys ws) :
    GoesD M g H (Itz K a b) ((xs.zip ys).map pairD) [] := by
  refine ⟨_, _, walk_zip (xs := vs) (ys := ws) (by rw [List.length_map, List.length_zip, rx.length, ry.length]), fun M' g' H' l c _ => ⟨.of (l.st a _ na ha), .of (l.st b _ nb hb)⟩, fun i M' H' x H2 g' d l c _ e y => ?_⟩
  obtain ⟨T, x1, y1, rfl, hT, rfl, e1, e2⟩ := y
  refine ⟨ex_new hT, ?_⟩
  rw [List.getElem?_map] at e
  cases hz : (xs.zip ys)[i]? with
  | none => rw [hz] at e; cases e
  | some p =>
    rw [hz] at e
    cases e
    obtain ⟨d1, d2⟩ := p
    have hx : xs[i]? = some d1 := by
      rw [List.getElem?_zip_eq_some] at hz
      exact hz.1
    have hy : ys[i]? = some d2 := by
      rw [List.getElem?_zip_eq_some] at hz
      exact hz.2
    obtain ⟨v1, h1, r1⟩ := rx.get hx
    obtain ⟨v2, h2, r2⟩ := ry.get hy
    replace e1 : vs[i]? = some x1 := e1
    replace e2 : ws[i]? = some y1 := e2
    rw [e1] at h1; cases h1
    rw [e2] at h2; cases h2
    exact ⟨T, _, rfl, new_rep c hT, upd_same, ((Reps.cons (r1.mono l) (.one (r2.mono l))).mono ((Tr.new (g := g') hT).leq c.dom))⟩
theorem yi_zip {env : DEnv} {g : G} {ta : TA} {Ψ : List D → G → G → Prop} (h : YA ta env g fun ds g1 => ∃ xs ys, ds = [.lst xs, .lst ys] ∧ Ψ ((xs.zip ys).map pairD) [] g1) : YI (iZip K ta) env g Ψ := fun M σ H s R k =>
  h M σ H s _ fun ds g1 vs H1 ⟨xs, ys, e, q⟩ t1 c1 r1 => by
    subst e
    obtain ⟨u, w, rfl, ⟨a, us, rfl, na, ha, ra⟩, ⟨b, ws, rfl, nb, hb, rb⟩⟩ := reps2 r1
    exact ⟨a, b, us, ws, rfl, .of ha, .of hb, k _ _ g1 _ H1 q t1 c1 (goes_zip na nb ha hb ra rb)⟩
theorem k_zip {X : Cx} {e e2 : Expr} {ta : TA} {p pos tpos : Pos} {elts : List Expr} {kk : Nat} (hK : X.K = K) (hg : Gl X "zip") (hm : X.mg "zip" = none) (ha : PA X [e, e2] ta)
    (hs : starEach [e, e2] X.env = (false, eval e X.env) :: starEach [e2] X.env := by rfl) (hpl : (backTo pos (starEach [e2] X.env)).any (·.1) = false := by rfl) :
    PI X (.Tuple elts kk tpos) (.Call (.Name "zip" p) [e, e2] [] pos) (iZip K ta) := hK ▸ pi_zip hg hm ha hs hpl
end
/-! ### raise X() of an own class -/
section
variable {X : Cx} {C : Addr} {bmB : List Value} {B newId initId : String}
theorem pmk_own0 {x : Str} {p pos : Pos} (F : ExcBaseFacts B newId initId bmB) (q : PySem.W.excIn X.K C bmB newId = true) (gC : X.mg x = some (.ref C)) (kC : PySem.W.keepIn X.K (.ref C) = true) (r : Raises X (.ref C)) (hg : Gl X x)
    (hdb : (x == ("__debug__" : Str)) = false := by decide) : PMk X (.Call (.Name x p) [] [] pos) (fun _ H Q => Q (.ref C) none H) := by
  intro pins s σ H Q I h
  refine wpAny_Call_Name_kw (ld_glob I hg gC ?_ hdb)
  refine PySem.W.callWith_K0 I.kIn kC ?_
  show wpAny _ _ (call (.ref C) []) _ _ _
  obtain ⟨bm, N, nm, qn, bs, hdct, sn, sub, ab, col, dd, k0, k1, k2, k3, k5, mN, hC, hN, hni, T⟩ := exc_obj I.kIn q
  refine wpAny_call_exc_subT F T hC hN hni (fun h' e hm => ?_) (by show 0 ≤ sizeLine; exact Nat.zero_le _)
  exact mk_of I hm r h (I.hok.gone hm.new)
end
/-! ### a def that always raises -/
/-- the promise: from arguments of the form pre, an error of the class at C, no cell touched -/
def spE (pre : List D → Prop) (C : Addr) : Sp := fun vs H Q E => ∃ M ds, Cok M [] H ∧ Reps (MM M []) H ds vs ∧ pre ds ∧ ∀ H', Tr [] H [] H' → Cok M [] H' → E (.ref C) none H'
/-- a body that ends in an error: what is left to show at the error -/
def WE (E : XK) (t : TS) (env : DEnv) (g : G) (C : Addr) : Prop := ∀ M σ H, Sok M env g σ H → (∀ g' H', Tr g H g' H' → Cok M g' H' → E (.ref C) none H') → ∀ Z : Ends, t Z σ H
section
variable {E : XK} {env : DEnv} {g : G} {C : Addr} {t u : TS}
theorem we_if {tt : TT} (h : YT tt env g fun b g1 => if b = true then WE E t env g1 C else WE E u env g1 C) : WE E (tIfS tt t u) env g C := fun M σ H s k Z =>
  h M σ H s _ fun b g1 H1 h1 t1 c1 => by
    cases b with
    | true => exact (show WE E t env g1 C from h1) M σ H1 (s.to t1 c1) (fun g' H' t c => k g' H' (t1.trans t) c) Z
    | false => exact (show WE E u env g1 C from h1) M σ H1 (s.to t1 c1) (fun g' H' t c => k g' H' (t1.trans t) c) Z
theorem we_raise : WE E (fun _ _ H => E (.ref C) none H) env g C := fun M σ H s k Z => k g H .refl s.toCok
theorem we_seq (h : WE E t env g C) : WE E (tSeq t u) env g C := fun M σ H s k Z => h M σ H s k _
theorem we_call {pre : List D → Prop} {tr : TA} (h : YA tr env g fun ds g1 => g1 = [] ∧ pre ds) : WE E (tDrop (tCall (spE pre C) [] E tr)) env g C := fun M σ H s k Z =>
  h M σ H s _ fun ds g1 vs H1 ⟨e, hp⟩ t1 c1 r1 => by
    subst e
    rw [List.append_nil]
    exact ⟨M, ds, c1, r1, hp, fun H' t c => k [] H' (t1.trans t) c⟩
end
/-- a def keeps such a promise -/
theorem okE {P : Program} {w : World} {K : PySem.W.Frag} {mg : Str → Option Value} {base : Heap} {x qual : Str} {params : Arguments} {body : List Stmt} {scope : Scope} {f : Addr} {fd : FuncData} {N ps : List Str} {k : Nat} {pre : List D → Prop} {C : Addr}
    (F : FunD K x qual params body scope [] [] f fd) (S : FnScope N ps scope) (hlen : ∀ ds, pre ds → ds.length = ps.length)
    (hbody : ∀ (cdv : Value) (A : Around) (outer : List Env) (s : Shared) (H : Hp) (E : XK), Room k (A.deeper (envOfC qual scope s.heap.objs.size f cdv)) →
      ∃ t : TS, PSs (cxOf (CX P w) P w K mg base N qual scope f cdv A outer s H E) body t ∧ ∀ ds, pre ds → WE E t (startD N ds) [] C) : FnOk P w K mg base (CX P w) (k + 1) f fd ps (spE pre C) := by
  refine F.ok S (fun vs H Q E ⟨M, ds, c, r, h, _⟩ => by rw [r.length]; exact hlen _ h) fun cdv A outer s H vs Q E hr ⟨M, ds, c, r, h, hE⟩ => ?_
  obtain ⟨t, hp, ht⟩ := hbody cdv A outer s H E hr
  exact ⟨t, hp, ht ds h M _ H (sok_start c r) (fun g' H' t' c' => hE H' ⟨fun a o e n => t'.kp a o e n, t'.th, fun a z => by cases z⟩ (by
    refine ⟨fun a m hm => (by cases hm), List.nodup_nil, c'.dom, fun a z => (by cases z)⟩)) _⟩
end Dl
set_option Elab.async false
set_option linter.all false
set_option maxRecDepth 100000
set_option maxHeartbeats 4000000
set_option autoImplicit false
namespace Dl
open PySem PySem.Spec PyProof.Rows L2
section
variable {K : PySem.W.Frag} {env : DEnv} {g : G} {te to ti : TE} {ta : TA} {ts : TS} {E : DE}
/-- xs[i] = v upon a cell -/
theorem wg_sub {d : D} {Φ : DEnv → G → Prop} (h : YE to env g fun x g1 => YE ti env g1 fun y g2 => ∃ a xs k j, x = .v (.ref a) ∧ y = dI k ∧ (a, MO.lst xs) ∈ g2 ∧ ixN xs.length k = some j ∧ Φ env (setG g2 a (.lst (xs.set j d)))) : WG (gSub to ti rSetL) d env g Φ := fun M σ H s v r Q k =>
  h M σ H s _ fun x g1 u H1 h1 t1 c1 r1 => h1 M σ H1 (s.to t1 c1) _ fun y g2 w H2 ⟨a, xs, kk, j, ex, ey, hm, hi, q⟩ t2 c2 r2 => by
    subst ex ey
    obtain ⟨o, h3, vs, e, r3⟩ := c2.cells a _ hm
    subst e
    have rv : Rep (MM M g2) H2 d v := (t1.trans t2).rep s.dom r
    obtain ⟨c3, t3⟩ := cok_set (m' := .lst (xs.set j d)) c2 hm ⟨vs.set j v, rfl, Reps.set j rv r3⟩
    have ha : u = V.ref a := r1
    have hk : w = V.int kk := r2
    exact ⟨a, vs, kk, j, ha, hk, h3, by rw [r3.length]; exact hi, k _ _ σ _ q ((t1.trans t2).trans t3) ((s.to (t1.trans t2) c2).to t3 c3)⟩
/-- a list cell that is not changed any more becomes data -/
theorem ws_frzL {i : Nat} {a : Addr} {g2 : G} {xs : List D} (hi : env[i]? = some (some (.v (.ref a)))) (hg : g = g2 ++ [(a, .lst xs)]) (h : WS ts (env.set i (some (.lst xs))) g2 E) : WS ts env g E := fun M σ H s Z f => by
  subst hg
  obtain ⟨c2, t2, l2⟩ := cok_sub s.toCok (g' := g2) (List.sublist_append_left _ _)
  have s2 : Sok M env g2 σ H := s.to t2 c2
  obtain ⟨v, h1, r⟩ := s.slots i _ hi
  obtain rfl : v = V.ref a := r
  have hm : (a, MO.lst xs) ∈ g2 ++ [(a, MO.lst xs)] := List.mem_append_right _ (List.mem_singleton.mpr rfl)
  obtain ⟨o, h3, vs, e, r3⟩ := s.cells a _ hm
  subst e
  have na : ¬ MM M g2 a := fun z => by
    rcases z with z | z
    · exact s.dis a (List.mem_map.mpr ⟨_, hm, rfl⟩) z
    · have nd := s.nd
      unfold ks at nd z
      rw [List.map_append] at nd
      exact (List.nodup_append.mp nd).2.2 a z a (by simp) rfl
  have r4 : Rep (MM M g2) H (.lst xs) (.ref a) := ⟨a, vs, rfl, na, h3, r3.mono l2⟩
  have s3 := s2.set (i := i) r4
  have e : σ.set i (some (V.ref a)) = σ := by
    apply List.ext_getElem?
    intro j
    by_cases hj : j = i
    · subst hj
      rw [h1, List.getElem?_set_self (List.getElem?_eq_some_iff.mp h1).1]
    · rw [List.getElem?_set_ne (Ne.symm hj)]
  rw [e] at s3
  exact h M σ H s3 Z (f.to t2)
theorem yt_sub {tt : TT} {Φ : Bool → G → Prop} (h : YT tt env g fun b g1 => ∃ g2, g2.Sublist g1 ∧ Φ b g2) : YT tt env g Φ := fun M σ H s Q k =>
  h M σ H s _ fun b g1 H1 ⟨g2, hs, q⟩ t1 c1 => by
    obtain ⟨c2, t2, l2⟩ := cok_sub c1 hs
    exact k b g2 H1 q (t1.trans t2) c2
/-- range(n) -/
theorem yi_range1 {Ψ : List D → G → G → Prop} (h : YA ta env g fun ds g1 => ∃ n : Nat, ds = [dI n] ∧ n < 1000000 ∧ Ψ ((List.range n).map fun i => dI (i : Nat)) [] g1) : YI (iRng1 ta) env g Ψ := fun M σ H s R k =>
  h M σ H s _ fun ds g1 vs H1 ⟨n, e, hn, q⟩ t1 c1 r1 => by
    subst e
    obtain ⟨u, rfl, ru⟩ := reps1 r1
    refine ⟨n, by rw [show u = V.int n from ru], by omega, by omega, ?_⟩
    refine k _ _ g1 _ H1 q t1 c1 ?_
    refine ⟨_, _, by have w := walk_range (lo := 0) (n := (n : Int).toNat); rw [show (n : Int).toNat = n by simp] at w; rw [List.length_map, List.length_range]; exact w, fun _ _ _ _ _ _ => trivial, fun i M' H x H' g' d l c _ e y => ?_⟩
    obtain ⟨rfl, rfl⟩ := y
    refine ⟨fun _ _ e => e, ?_⟩
    rw [List.getElem?_map] at e
    cases hr : (List.range n)[i]? with
    | none => rw [hr] at e; cases e
    | some j =>
      rw [hr] at e
      cases e
      have hj := List.getElem?_eq_some_iff.mp hr
      obtain ⟨hl, hj⟩ := hj
      rw [List.getElem_range] at hj
      subst hj
      show V.int (0 + (i : Nat)) = V.int (i : Nat)
      rw [Int.zero_add]
theorem ws_par3 {i j l : Nat} (h : YA ta env g fun ds g1 => ∃ d e f, ds = [d, e, f] ∧ E.nx (((env.set i (some d)).set j (some e)).set l (some f)) g1) : WS (tPar3 i j l ta) env g E := fun M σ H s Z fz =>
  h M σ H s _ fun ds g1 vs H1 ⟨d, e, f, eq, q⟩ t1 c1 r1 => by
    subst eq
    obtain ⟨u, us, rfl, r2, r3⟩ := r1
    obtain ⟨u2, us2, rfl, r4, r5⟩ := r3
    obtain ⟨u3, us3, rfl, r6, r7⟩ := r5
    rw [show us3 = [] from r7]
    exact ⟨u, u2, u3, rfl, fz.nx _ _ _ _ q t1 (((s.to t1 c1).set r2).set r4 |>.set r6)⟩
end
section
variable {K : PySem.W.Frag} {g : G} {Ψ : D → G → Prop}
/-- z[i], a text's sign -/
theorem ixA_str {z : Str} {i : Nat} {c : Nat} (hz : z.length ≤ 1000000) (h : z.cps[i]? = some c) (q : Ψ (dS ⟨#[c]⟩) g) : RD (rIxA K) (dS z) (dI i) g Ψ := rd_l fun M H cc u w ru rw Q k => by
  have e1 : u = V.str z := ru
  have e2 : w = V.int i := rw
  refine .inr (.inr ⟨z, i, c, e1, e2, by rw [sizeLine_eq]; omega, ?_, k _ g _ H q .refl cc rfl⟩)
  have hi := (Array.getElem?_eq_some_iff.mp h).1
  have hlen : z.cps.toList.length = z.cps.size := by simp
  show (ixN z.cps.toList.length (i : Int)).bind (fun j => z.cps.toList[j]?) = some c
  unfold ixN
  rw [if_pos (by omega), if_pos (by rw [hlen]; omega)]
  simpa using h
theorem op_mulR {i j : Int} (h : -(2 ^ 64) < i ∧ i < 2 ^ 64) (q : Ψ (dI (i * j)) g) : RD (rI CMul fun i j => .int (i * j)) (dI i) (dI j) g Ψ := rd_I (.inl h) q
theorem op_mulR2 {i j : Int} (h : -(2 ^ 64) < j ∧ j < 2 ^ 64) (q : Ψ (dI (i * j)) g) : RD (rI CMul fun i j => .int (i * j)) (dI i) (dI j) g Ψ := rd_I (.inr h) q
end
end Dl
namespace Dl
open PySem PySem.Spec PyProof.Rows L2
/-- a list cell that is not changed any more becomes data; other cells may be forgotten -/
theorem ws_frzA {env : DEnv} {g g2 : G} {ts : TS} {E : DE} {i : Nat} {a : Addr} {xs : List D} (hi : env[i]? = some (some (.v (.ref a)))) (hm : (a, MO.lst xs) ∈ g) (hs : g2.Sublist g) (hn : a ∉ ks g2) (h : WS ts (env.set i (some (.lst xs))) g2 E) : WS ts env g E := fun M σ H s Z f => by
  obtain ⟨c2, t2, l2⟩ := cok_sub s.toCok hs
  have s2 : Sok M env g2 σ H := s.to t2 c2
  obtain ⟨v, h1, r⟩ := s.slots i _ hi
  obtain rfl : v = V.ref a := r
  obtain ⟨o, h3, vs, e, r3⟩ := s.cells a _ hm
  subst e
  have na : ¬ MM M g2 a := fun z => by
    rcases z with z | z
    · exact s.dis a (List.mem_map.mpr ⟨_, hm, rfl⟩) z
    · exact hn z
  have r4 : Rep (MM M g2) H (.lst xs) (.ref a) := ⟨a, vs, rfl, na, h3, r3.mono l2⟩
  have s3 := s2.set (i := i) r4
  have e : σ.set i (some (V.ref a)) = σ := by
    apply List.ext_getElem?
    intro j
    by_cases hj : j = i
    · subst hj
      rw [h1, List.getElem?_set_self (List.getElem?_eq_some_iff.mp h1).1]
    · rw [List.getElem?_set_ne (Ne.symm hj)]
  rw [e] at s3
  exact h M σ H s3 Z (f.to t2)
/-- dict(pairs) -/
def rDictP (K : PySem.W.Frag) : List V → Hp → VK → Prop := fun xs H Q => ∃ (a : Addr) (ps : List Addr) (kvs : List (Key × V)), xs = [.ref a] ∧ SqL K H a (ps.map V.ref) ∧ Paired (fun p kv => SqT K H p [kV kv.1, kv.2]) ps kvs ∧ ∀ p, H p = none → Q (.ref p) (upd H p (.dK (mergeK [] kvs)))
theorem k_dictP {X : Cx} {K : PySem.W.Frag} (hK : X.K = K) (hc : X.calm = true) : CallR X (.type "dict") (rDictP K) := hK ▸ call_dictP hc
theorem rc_dictP {K : PySem.W.Frag} {g : G} {Ψ : D → G → Prop} {d : D} {ps : List (Str × D)} (l : LV g d (ps.map fun p => .tup [dS p.1, p.2])) (nd : (ps.map (·.1)).Nodup) (q : ∀ a, a ∉ ks g → Ψ (.v (.ref a)) (g ++ [(a, .dic (ps.map fun p => Sum.inr p.1) (ps.map (·.2)))])) :
    RC (rDictP K) [d] g Ψ := fun M H c us ru Q k => by
  obtain ⟨u, rfl, r⟩ := reps1 ru
  obtain ⟨a, vs, rfl, ha, rs⟩ := l.at c r
  have build : ∀ {ps : List (Str × D)} {vs : List V}, Reps (MM M g) H (ps.map fun p => .tup [dS p.1, p.2]) vs → ∃ (as : List Addr) (ws : List V), vs = as.map V.ref ∧ Reps (MM M g) H (ps.map (·.2)) ws ∧ Paired (fun p (kv : Key × V) => SqT K H p [kV kv.1, kv.2]) as ((ps.map fun p => (Sum.inr p.1 : Key)).zip ws) := by
    intro ps
    induction ps with
    | nil => intro vs h; exact ⟨[], [], (show vs = [] from h), rfl, .nil⟩
    | cons p ps ih =>
      intro vs h
      obtain ⟨u, us, rfl, ⟨b, ts, rfl, nb, hb, rb⟩, rest⟩ := h
      obtain ⟨x, w, rfl, rx, rw'⟩ := reps2 rb
      obtain ⟨as, ws, rfl, h1, h2⟩ := ih rest
      obtain rfl : x = V.str p.1 := rx
      exact ⟨b :: as, w :: ws, rfl, .cons rw' h1, .cons (.of hb) h2⟩
  obtain ⟨as, ws, rfl, h1, h2⟩ := build rs
  refine ⟨a, as, _, rfl, .of ha, h2, fun p hp => ?_⟩
  have hlen : (ps.map fun p => (Sum.inr p.1 : Key)).length = ws.length := by rw [h1.length]; simp
  have hz : (((ps.map fun p => (Sum.inr p.1 : Key)).zip ws).map (·.1)) = ps.map fun p => (Sum.inr p.1 : Key) := List.map_fst_zip (by omega)
  have em : mergeK [] ((ps.map fun p => (Sum.inr p.1 : Key)).zip ws) = (ps.map fun p => (Sum.inr p.1 : Key)).zip ws := by
    rw [mergeK_fresh (by
      rw [List.nil_append, hz, show (ps.map fun p => (Sum.inr p.1 : Key)) = (ps.map (·.1)).map Sum.inr by rw [List.map_map]; rfl]
      exact List.Pairwise.map _ (fun a b h e => h (Sum.inr.inj e)) nd), List.nil_append]
  rw [em]
  obtain ⟨c2, t2⟩ := new_cell (m := .dic (ps.map fun p => Sum.inr p.1) (ps.map (·.2))) c hp ⟨ws, rfl, by simp, h1⟩
  exact k _ _ _ _ (q p (fun z => new_rep c hp (.inr z))) t2 c2 rfl
end Dl
set_option Elab.async false
set_option linter.all false
set_option maxRecDepth 100000
set_option maxHeartbeats 4000000
set_option autoImplicit false
namespace Dl
open PySem PySem.Spec PyProof.Rows L2
section
variable {X : Cx} {CX : CXT} {k : Nat} {ps : List Str} {sp : Sp} {x : Str} {p pos : Pos} {e : Expr} {es : List Expr} {t : TA}
theorem pe_calS {E : L2.St → XK} (c : Cal X.prog X.w X.K X.mg X.base CX k x ps sp) (hr : Room k X.A) (hg : Gl X x) (hx : ∀ σ, PassesAt CX X σ (E σ)) (ha : PA X (e :: es) t) (hdb : (x == ("__debug__" : Str)) = false := by decide)
    (he : starEach (e :: es) X.env = (false, eval e X.env) :: starEach es X.env := by rfl) (hpl : (backTo pos (starEach es X.env)).any (·.1) = false := by rfl) : PE X (.Call (.Name x p) (e :: es) [] pos) (tCallS sp E t) := by
  obtain ⟨f, fd, F, hm, hk, hb⟩ := c.ex
  exact pe_callS F hr hg hm hk hb hx ha hdb he hpl
end
theorem ws_tryU {K : PySem.W.Frag} {c : Value} {C : Addr} {pre : List D → Prop} {tr : TA} {u : TS} {env : DEnv} {g : G} {E : DE} {Wout : WX} (hm : PySem.W.exmOne K (.ref C) c = some true) (h : YA tr env g fun ds g1 => g1 = [] ∧ pre ds) (hq : E.rt (dB true) []) :
    WS (fun D σ H => tSeq (tDrop (tCallS (spE pre C) (L2.WE (wOnly K c (fun _ _ _ => tRet (tC (.bl true))) Wout D)) tr)) u D σ H) env g E := fun M σ H s Z f =>
  h M σ H s _ fun ds g1 vs H1 ⟨e, hp⟩ t1 c1 r1 => by
    subst e
    exact ⟨M, ds, c1, r1, hp, fun H' t c => ⟨true, hm, fun _ a ha => f.rt (dB true) [] (.bl true) H' hq (t1.trans t) c rfl, fun z => nomatch z⟩⟩
end Dl
set_option Elab.async false
set_option linter.all false
set_option maxRecDepth 100000
set_option maxHeartbeats 4000000
set_option autoImplicit false
namespace Dl
open PySem PySem.Spec PyProof.Rows L2
/-! ### cells in another order -/
theorem cok_perm {M : Addr → Prop} {g g' : G} {H : Hp} (c : Cok M g H) (p : g'.Perm g) : Cok M g' H ∧ Tr g H g' H := by
  have pk : (ks g').Perm (ks g) := p.map _
  have lq : Leq (MM M g) (MM M g') H H := ⟨fun _ _ _ e => e, fun a n _ z => n (z.elim .inl fun z => .inr (pk.mem_iff.mp z))⟩
  refine ⟨⟨fun a m h => ?_, pk.nodup_iff.mpr c.nd, c.dom, fun a h => c.dis a (pk.mem_iff.mp h)⟩, ⟨fun a o e _ => e, fun _ h => h, fun a z => .inl (pk.mem_iff.mp z)⟩⟩
  obtain ⟨o, h1, h2⟩ := c.cells a m (p.mem_iff.mp h)
  exact ⟨o, h1, h2.mono lq⟩
theorem ws_perm {env : DEnv} {g g2 : G} {ts : TS} {E : DE} (hp : g2.Perm g) (h : WS ts env g2 E) : WS ts env g E := fun M σ H s Z f => by
  obtain ⟨c2, t2⟩ := cok_perm s.toCok hp
  exact h M σ H (s.to t2 c2) Z (f.to t2)
end Dl
set_option Elab.async false
set_option linter.all false
set_option maxRecDepth 100000
set_option maxHeartbeats 4000000
set_option autoImplicit false
namespace Ls
open PySem PySem.Spec PyProof.Rows L2 Dl
def top (i : Nat) : Stmt := PySem.Challenge.pw_longstrike_k67_partings_refused.main.body.getD i (.Pass ⟨0, 0, 0, 0⟩)
structure Txt (K : PySem.W.Frag) (mg : Str → Option Value) : Prop where
  f_isinstance : mg "isinstance" = none
  f_len : mg "len" = none
  f_all : mg "all" = none
  f_any : mg "any" = none
  f_str : mg "str" = none
  f_int : mg "int" = none
  f_bool : mg "bool" = none
  f_list : mg "list" = none
  f_tuple : mg "tuple" = none
  f_dict : mg "dict" = none
  f_range : mg "range" = none
  f_zip : mg "zip" = none
  f_enumerate : mg "enumerate" = none
  f_sorted : mg "sorted" = none
  f_min : mg "min" = none
  f_reversed : mg "reversed" = none
  f_super : mg "super" = none
  s_FALL : ∃ t, mg "FALL" = some (.str "fall" t)
  s_CLEAR : ∃ t, mg "CLEAR" = some (.str "clear" t)
  s_STRUCK : ∃ t, mg "STRUCK" = some (.str "strike" t)
  s_LETTERS : ∃ t, mg "LETTERS" = some (.str "abcdefghijklmnopqrstuvwxyz" t)
  r_HERE : mg "HERE" = some (.ref (He.ga K "HERE"))
  t_HERE : ∀ H, SqT K H (He.ga K "HERE") [.str "plain", .str "marked", .str "other"]
  cl_Column : Cls K (He.ga K "Column")
  cl_Book : Cls K (He.ga K "Book")
  cl_Watch : Cls K (He.ga K "Watch")
  cl_KindWatch : Cls K (He.ga K "KindWatch")
  cl_ColumnWatch : Cls K (He.ga K "ColumnWatch")
  cl_Weaver : Cls K (He.ga K "Weaver")
  n_Column_word : NoAttr K (He.ga K "Column") "word"
  n_Column_home : NoAttr K (He.ga K "Column") "home"
  n_Column_goal : NoAttr K (He.ga K "Column") "goal"
  n_Column_rule : NoAttr K (He.ga K "Column") "rule"
  n_Book_open_kinds : NoAttr K (He.ga K "Book") "open_kinds"
  n_Book_column_rows : NoAttr K (He.ga K "Book") "column_rows"
  n_Book_column_table : NoAttr K (He.ga K "Book") "column_table"
  n_Book_all_checks : NoAttr K (He.ga K "Book") "all_checks"
  n_Book_own_checks : NoAttr K (He.ga K "Book") "own_checks"
  n_Watch_law_book : NoAttr K (He.ga K "Watch") "law_book"
  n_Watch_home : NoAttr K (He.ga K "Watch") "home"
  n_Watch_can_mark : NoAttr K (He.ga K "Watch") "can_mark"
  n_Watch_sorts : NoAttr K (He.ga K "Watch") "sorts"
  n_KindWatch_law_book : NoAttr K (He.ga K "KindWatch") "law_book"
  n_KindWatch_home : NoAttr K (He.ga K "KindWatch") "home"
  n_KindWatch_can_mark : NoAttr K (He.ga K "KindWatch") "can_mark"
  n_KindWatch_sorts : NoAttr K (He.ga K "KindWatch") "sorts"
  n_ColumnWatch_by : NoAttr K (He.ga K "ColumnWatch") "by"
  n_ColumnWatch_goal : NoAttr K (He.ga K "ColumnWatch") "goal"
  n_ColumnWatch_other_column : NoAttr K (He.ga K "ColumnWatch") "other_column"
  n_ColumnWatch_sorts : NoAttr K (He.ga K "ColumnWatch") "sorts"
  n_ColumnWatch_law_book : NoAttr K (He.ga K "ColumnWatch") "law_book"
  n_ColumnWatch_home : NoAttr K (He.ga K "ColumnWatch") "home"
  n_ColumnWatch_can_mark : NoAttr K (He.ga K "ColumnWatch") "can_mark"
  n_Weaver_watch : NoAttr K (He.ga K "Weaver") "watch"
  n_Weaver_way : NoAttr K (He.ga K "Weaver") "way"
  n_Weaver_made : NoAttr K (He.ga K "Weaver") "made"
  n_Weaver_held : NoAttr K (He.ga K "Weaver") "held"
  n_Weaver_chains : NoAttr K (He.ga K "Weaver") "chains"
  n_Weaver_unused : NoAttr K (He.ga K "Weaver") "unused"
abbrev fs_Column : List Str := ["word", "home", "goal", "rule"]
theorem dlf_Column_word (x0 x1 x2 x3 : D) : dlf fs_Column [x0, x1, x2, x3] "word" = some x0 := by rfl
theorem dlf_Column_home (x0 x1 x2 x3 : D) : dlf fs_Column [x0, x1, x2, x3] "home" = some x1 := by rfl
theorem dlf_Column_goal (x0 x1 x2 x3 : D) : dlf fs_Column [x0, x1, x2, x3] "goal" = some x2 := by rfl
theorem dlf_Column_rule (x0 x1 x2 x3 : D) : dlf fs_Column [x0, x1, x2, x3] "rule" = some x3 := by rfl
abbrev fs_Book : List Str := ["open_kinds", "column_rows", "column_table", "all_checks", "own_checks"]
theorem dlf_Book_open_kinds (x0 x1 x2 x3 x4 : D) : dlf fs_Book [x0, x1, x2, x3, x4] "open_kinds" = some x0 := by rfl
theorem dlf_Book_column_rows (x0 x1 x2 x3 x4 : D) : dlf fs_Book [x0, x1, x2, x3, x4] "column_rows" = some x1 := by rfl
theorem dlf_Book_column_table (x0 x1 x2 x3 x4 : D) : dlf fs_Book [x0, x1, x2, x3, x4] "column_table" = some x2 := by rfl
theorem dlf_Book_all_checks (x0 x1 x2 x3 x4 : D) : dlf fs_Book [x0, x1, x2, x3, x4] "all_checks" = some x3 := by rfl
theorem dlf_Book_own_checks (x0 x1 x2 x3 x4 : D) : dlf fs_Book [x0, x1, x2, x3, x4] "own_checks" = some x4 := by rfl
abbrev fs_Watch : List Str := ["law_book", "home", "can_mark", "sorts"]
theorem dlf_Watch_law_book (x0 x1 x2 x3 : D) : dlf fs_Watch [x0, x1, x2, x3] "law_book" = some x0 := by rfl
theorem dlf_Watch_home (x0 x1 x2 x3 : D) : dlf fs_Watch [x0, x1, x2, x3] "home" = some x1 := by rfl
theorem dlf_Watch_can_mark (x0 x1 x2 x3 : D) : dlf fs_Watch [x0, x1, x2, x3] "can_mark" = some x2 := by rfl
theorem dlf_Watch_sorts (x0 x1 x2 x3 : D) : dlf fs_Watch [x0, x1, x2, x3] "sorts" = some x3 := by rfl
abbrev fs_KindWatch : List Str := ["law_book", "home", "can_mark", "sorts"]
theorem dlf_KindWatch_law_book (x0 x1 x2 x3 : D) : dlf fs_KindWatch [x0, x1, x2, x3] "law_book" = some x0 := by rfl
theorem dlf_KindWatch_home (x0 x1 x2 x3 : D) : dlf fs_KindWatch [x0, x1, x2, x3] "home" = some x1 := by rfl
theorem dlf_KindWatch_can_mark (x0 x1 x2 x3 : D) : dlf fs_KindWatch [x0, x1, x2, x3] "can_mark" = some x2 := by rfl
theorem dlf_KindWatch_sorts (x0 x1 x2 x3 : D) : dlf fs_KindWatch [x0, x1, x2, x3] "sorts" = some x3 := by rfl
abbrev fs_ColumnWatch : List Str := ["law_book", "home", "can_mark", "sorts", "by", "goal", "other_column"]
theorem dlf_ColumnWatch_law_book (x0 x1 x2 x3 x4 x5 x6 : D) : dlf fs_ColumnWatch [x0, x1, x2, x3, x4, x5, x6] "law_book" = some x0 := by rfl
theorem dlf_ColumnWatch_home (x0 x1 x2 x3 x4 x5 x6 : D) : dlf fs_ColumnWatch [x0, x1, x2, x3, x4, x5, x6] "home" = some x1 := by rfl
theorem dlf_ColumnWatch_can_mark (x0 x1 x2 x3 x4 x5 x6 : D) : dlf fs_ColumnWatch [x0, x1, x2, x3, x4, x5, x6] "can_mark" = some x2 := by rfl
theorem dlf_ColumnWatch_sorts (x0 x1 x2 x3 x4 x5 x6 : D) : dlf fs_ColumnWatch [x0, x1, x2, x3, x4, x5, x6] "sorts" = some x3 := by rfl
theorem dlf_ColumnWatch_by (x0 x1 x2 x3 x4 x5 x6 : D) : dlf fs_ColumnWatch [x0, x1, x2, x3, x4, x5, x6] "by" = some x4 := by rfl
theorem dlf_ColumnWatch_goal (x0 x1 x2 x3 x4 x5 x6 : D) : dlf fs_ColumnWatch [x0, x1, x2, x3, x4, x5, x6] "goal" = some x5 := by rfl
theorem dlf_ColumnWatch_other_column (x0 x1 x2 x3 x4 x5 x6 : D) : dlf fs_ColumnWatch [x0, x1, x2, x3, x4, x5, x6] "other_column" = some x6 := by rfl
abbrev fs_Weaver : List Str := ["watch", "way", "made", "held", "chains", "unused"]
theorem dlf_Weaver_watch (x0 x1 x2 x3 x4 x5 : D) : dlf fs_Weaver [x0, x1, x2, x3, x4, x5] "watch" = some x0 := by rfl
theorem dlf_Weaver_way (x0 x1 x2 x3 x4 x5 : D) : dlf fs_Weaver [x0, x1, x2, x3, x4, x5] "way" = some x1 := by rfl
theorem dlf_Weaver_made (x0 x1 x2 x3 x4 x5 : D) : dlf fs_Weaver [x0, x1, x2, x3, x4, x5] "made" = some x2 := by rfl
theorem dlf_Weaver_held (x0 x1 x2 x3 x4 x5 : D) : dlf fs_Weaver [x0, x1, x2, x3, x4, x5] "held" = some x3 := by rfl
theorem dlf_Weaver_chains (x0 x1 x2 x3 x4 x5 : D) : dlf fs_Weaver [x0, x1, x2, x3, x4, x5] "chains" = some x4 := by rfl
theorem dlf_Weaver_unused (x0 x1 x2 x3 x4 x5 : D) : dlf fs_Weaver [x0, x1, x2, x3, x4, x5] "unused" = some x5 := by rfl
local macro_rules | `(tactic| walk_at "nof") => `(tactic| first
  | with_reducible exact Txt.n_Column_word (by assumption)
  | with_reducible exact Txt.n_Column_home (by assumption)
  | with_reducible exact Txt.n_Column_goal (by assumption)
  | with_reducible exact Txt.n_Column_rule (by assumption)
  | with_reducible exact Txt.n_Book_open_kinds (by assumption)
  | with_reducible exact Txt.n_Book_column_rows (by assumption)
  | with_reducible exact Txt.n_Book_column_table (by assumption)
  | with_reducible exact Txt.n_Book_all_checks (by assumption)
  | with_reducible exact Txt.n_Book_own_checks (by assumption)
  | with_reducible exact Txt.n_Watch_law_book (by assumption)
  | with_reducible exact Txt.n_Watch_home (by assumption)
  | with_reducible exact Txt.n_Watch_can_mark (by assumption)
  | with_reducible exact Txt.n_Watch_sorts (by assumption)
  | with_reducible exact Txt.n_KindWatch_law_book (by assumption)
  | with_reducible exact Txt.n_KindWatch_home (by assumption)
  | with_reducible exact Txt.n_KindWatch_can_mark (by assumption)
  | with_reducible exact Txt.n_KindWatch_sorts (by assumption)
  | with_reducible exact Txt.n_ColumnWatch_law_book (by assumption)
  | with_reducible exact Txt.n_ColumnWatch_home (by assumption)
  | with_reducible exact Txt.n_ColumnWatch_can_mark (by assumption)
  | with_reducible exact Txt.n_ColumnWatch_sorts (by assumption)
  | with_reducible exact Txt.n_ColumnWatch_by (by assumption)
  | with_reducible exact Txt.n_ColumnWatch_goal (by assumption)
  | with_reducible exact Txt.n_ColumnWatch_other_column (by assumption)
  | with_reducible exact Txt.n_Weaver_watch (by assumption)
  | with_reducible exact Txt.n_Weaver_way (by assumption)
  | with_reducible exact Txt.n_Weaver_made (by assumption)
  | with_reducible exact Txt.n_Weaver_held (by assumption)
  | with_reducible exact Txt.n_Weaver_chains (by assumption)
  | with_reducible exact Txt.n_Weaver_unused (by assumption))
local macro_rules | `(tactic| walk_at "cls") => `(tactic| first
  | with_reducible exact Txt.cl_Column (by assumption)
  | with_reducible exact Txt.cl_Book (by assumption)
  | with_reducible exact Txt.cl_Watch (by assumption)
  | with_reducible exact Txt.cl_KindWatch (by assumption)
  | with_reducible exact Txt.cl_ColumnWatch (by assumption)
  | with_reducible exact Txt.cl_Weaver (by assumption))
local macro_rules | `(tactic| walk_at "dlf") => `(tactic| first
  | with_reducible exact dlf_Column_word ..
  | with_reducible exact dlf_Column_home ..
  | with_reducible exact dlf_Column_goal ..
  | with_reducible exact dlf_Column_rule ..
  | with_reducible exact dlf_Book_open_kinds ..
  | with_reducible exact dlf_Book_column_rows ..
  | with_reducible exact dlf_Book_column_table ..
  | with_reducible exact dlf_Book_all_checks ..
  | with_reducible exact dlf_Book_own_checks ..
  | with_reducible exact dlf_Watch_law_book ..
  | with_reducible exact dlf_Watch_home ..
  | with_reducible exact dlf_Watch_can_mark ..
  | with_reducible exact dlf_Watch_sorts ..
  | with_reducible exact dlf_KindWatch_law_book ..
  | with_reducible exact dlf_KindWatch_home ..
  | with_reducible exact dlf_KindWatch_can_mark ..
  | with_reducible exact dlf_KindWatch_sorts ..
  | with_reducible exact dlf_ColumnWatch_law_book ..
  | with_reducible exact dlf_ColumnWatch_home ..
  | with_reducible exact dlf_ColumnWatch_can_mark ..
  | with_reducible exact dlf_ColumnWatch_sorts ..
  | with_reducible exact dlf_ColumnWatch_by ..
  | with_reducible exact dlf_ColumnWatch_goal ..
  | with_reducible exact dlf_ColumnWatch_other_column ..
  | with_reducible exact dlf_Weaver_watch ..
  | with_reducible exact dlf_Weaver_way ..
  | with_reducible exact dlf_Weaver_made ..
  | with_reducible exact dlf_Weaver_held ..
  | with_reducible exact dlf_Weaver_chains ..
  | with_reducible exact dlf_Weaver_unused ..)
local macro_rules | `(tactic| walk_at "len") => `(tactic| first | decide | (simp; done) | omega | (simp; omega) | (simp only [PySem.Str.length_append, sizeLine_eq, len_empty, len_space]; omega))
local macro_rules | `(tactic| walk_at "go1") => `(tactic| first
  | with_reducible refine ws_seq ?_
  | with_reducible refine ws_set ?_
  | with_reducible refine ws_ret ?_
  | with_reducible refine ws_if ?_
  | with_reducible refine ws_drop ?_
  | with_reducible refine ws_next ?_
  | with_reducible refine ws_retN ?_
  | with_reducible refine ws_cont ?_
  | with_reducible refine ws_brk ?_
  | with_reducible refine ws_asg ?_
  | with_reducible refine ye_var (by with_unfolding_all rfl) ?_
  | with_reducible refine ye_c ?_
  | with_reducible refine ye_op ?_
  | with_reducible refine ye_cb ?_
  | with_reducible refine ye_bm ?_
  | with_reducible refine ye_m1 ?_
  | with_reducible refine ye_if ?_
  | with_reducible refine ye_andV ?_
  | with_reducible refine ye_orV ?_
  | with_reducible refine ye_notV ?_
  | with_reducible refine ye_join ?_
  | with_reducible refine ye_fmt ?_
  | with_reducible refine ye_fld ?_
  | with_reducible refine ye_items ?_
  | with_reducible refine ye_sl ?_
  | with_reducible refine ye_tup ?_
  | with_reducible refine yo_none ?_
  | with_reducible refine yo_some ?_
  | with_reducible refine yt_B ?_
  | with_reducible refine yt_test ?_
  | with_reducible refine yt_and ?_
  | with_reducible refine yt_or ?_
  | with_reducible refine yt_not ?_
  | with_reducible refine yt_yes ?_
  | with_reducible refine ya_nil ?_
  | with_reducible refine ya_cons ?_
  | with_reducible refine ya_starA ?_
  | with_reducible refine yj_nil ?_
  | with_reducible refine yj_cons ?_
  | with_reducible refine wg_name ?_
  | with_reducible refine eqA_S ?_
  | with_reducible refine neA_S ?_
  | with_reducible refine eqA_I ?_
  | with_reducible refine neA_I ?_
  | with_reducible refine addA_I ?_
  | with_reducible refine rd_I0 ?_
  | with_reducible refine isi_SS ?_
  | with_reducible refine rc_strS ?_
  | with_reducible refine rd_isN ?_
  | with_reducible refine rd_notN ?_
  | with_reducible refine chain_I ?_
  | with_reducible refine rc_lenS (by walk_at "len") ?_
  | with_reducible refine inA_S ?_
  | with_reducible refine ws_fld1 (by with_unfolding_all rfl) (by walk_at "cls") (by walk_at "nof") (by decide +kernel) (by decide +kernel) ?_
  | with_reducible refine ⟨_, _, _, _, OV.im _ _ _, by walk_at "cls", by walk_at "nof", by walk_at "dlf", ?_⟩
  | with_reducible refine ⟨_, _, _, _, OV.mu _ _ _ _ (List.mem_singleton.mpr rfl), by walk_at "cls", by walk_at "nof", by with_unfolding_all rfl, ?_⟩
  | with_reducible refine ⟨(rfl : ([_] : G) = _), ?_⟩
  | with_reducible refine ⟨_, _, _, rfl, rfl, rfl, ?_⟩
  | refine iteT ?_
  | refine iteF ?_
  | with_reducible refine ⟨_, rfl, ?_⟩
  | with_reducible refine ⟨(by walk_at "len" : List.length _ ≤ _), ?_⟩
  | with_reducible refine ⟨(by walk_at "len" : PySem.Str.length _ ≤ _), ?_⟩)
local macro_rules | `(tactic| walk_at "go") => `(tactic| repeat walk_at "go1")
local macro_rules | `(tactic| walk_at "end") => `(tactic| first | rfl | exact ⟨rfl, rfl⟩ | exact ⟨_, rfl, rfl⟩ | exact ⟨_, _, rfl, rfl⟩)
local macro_rules | `(tactic| walk_at "auto1") => `(tactic| first | walk_at "go1" | walk_at "own" | refine iteT' (by decide +kernel) ?_ | refine iteF' (by decide +kernel) ?_ | refine iteB (fun h => ?_) (fun h => ?_))
local macro_rules | `(tactic| walk_at "auto") => `(tactic| repeat' walk_at "auto1")
section
variable {P : Program} {w : World} {K : PySem.W.Frag} {mg : Str → Option Value} {base : Heap}
/-! ### names -/
def letters : Str := "abcdefghijklmnopqrstuvwxyz"
def isName (s : Str) : Bool := decide (1 ≤ s.length) && decide (s.length ≤ 8) && !decide (s = "strike") && s.cps.toList.all fun c => decide (c ∈ letters.cps.toList)
/-- where a text may be looked for: xs its texts -/
inductive Holds1 (g : G) : D → Str → Bool → Prop
  | lst (d : D) (ss : List Str) (s : Str) (l : SV g d (ss.map dS)) : Holds1 g d s (decide (s ∈ ss))
  | dic (d : D) (ks : List Key) (xs : List D) (s : Str) (l : DV g d ks xs) : Holds1 g d s (kin (Sum.inr s) ks)
def R_stands_in : RS := detR (α := Str × D × Bool × G) (fun x ds g => ds = [dS x.1, x.2.1] ∧ g = x.2.2.2 ∧ Holds1 g x.2.1 x.1 x.2.2.1) (fun x => dB x.2.2.1) (fun x => x.2.2.2)
theorem inA_H {K : PySem.W.Frag} {g : G} {d : D} {s : Str} {b : Bool} {Ψ : D → G → Prop} (h : Holds1 g d s b) (q : Ψ (dB b) g) : RD (rInA K false) (dS s) d g Ψ := by
  cases h with
  | lst ss _ l => exact inA_L (neg := false) l rfl q
  | dic ks xs _ l => exact inA_D (neg := false) l q
abbrev N_stands_in : List Str := ["thing", "names"]
theorem sc_stands_in : FnScope N_stands_in ["thing", "names"] (defScope (top 13)) := ⟨rfl, rfl, rfl, by decide +kernel, rfl, by decide +kernel, by decide +kernel⟩
theorem ok_stands_in {f : Addr} {fd : FuncData} (T : Txt K mg)  (F : FunD K "stands_in" "stands_in" (defArgs (top 13)) (defBody (top 13)) (defScope (top 13)) [] [] f fd) : FnOk P w K mg base CX0 1 f fd ["thing", "names"] (spR R_stands_in) := by
  refine okW F sc_stands_in (by rintro ds g Q ⟨x, ⟨rfl, _⟩, _⟩; rfl) fun cdv A outer s H E hr => ⟨_, PSs.nox (pss_one (ps_ret (pe_and (pe_callB (k_isi (K := K) rfl) (by rfl) T.f_isinstance boot_isinstance (pa_cons (pv 0) (pa_cons (pe_bltn (v := .ty "str") (by rfl) T.f_str boot_str rfl) pa_nil))) (pe_one (pe_cmpR (k_in (K := K) rfl (hu_of hr)) (pv 0) (pv 1) (by rfl)))))), ?_⟩
  rintro ds g Q ⟨⟨s, d, b, g⟩, ⟨rfl, rfl, h⟩, hQ⟩
  walk_at "go"
  exact inA_H h hQ
def R_is_name : RS := pureR (α := Str) (fun s ds => ds = [dS s] ∧ s.length ≤ 1000) (fun s => dB (isName s))
abbrev N_is_name : List Str := ["thing", "letter"]
theorem sc_is_name : FnScope N_is_name ["thing"] (defScope (top 12)) := ⟨rfl, rfl, rfl, by decide +kernel, rfl, by decide +kernel, by decide +kernel⟩
theorem ok_is_name {f : Addr} {fd : FuncData} (T : Txt K mg)  (F : FunD K "is_name" "is_name" (defArgs (top 12)) (defBody (top 12)) (defScope (top 12)) [] [] f fd) : FnOk P w K mg base CX0 1 f fd ["thing"] (spR R_is_name) := by
  refine okW F sc_is_name (by rintro ds g Q ⟨_, x, ⟨rfl, _⟩, _⟩; rfl) fun cdv A outer s H E hr => ⟨_, PSs.nox (pss_cons (ps_if (PW.pt (pw_or (pt_not (pt_val (pe_callB (k_isi (K := K) rfl) (by rfl) T.f_isinstance boot_isinstance (pa_cons (pv 0) (pa_cons (pe_bltn (v := .ty "str") (by rfl) T.f_str boot_str rfl) pa_nil))))) (pw_or (pt_not (pt_chain op_le op_le pe_int (pe_callB (k_len (K := K) rfl) (by rfl) T.f_len (by decide +kernel) (pa_cons (pv 0) pa_nil)) pe_int)) (pw_or1 (pt_cmpR (k_eq (K := K) rfl hr.units) (pv 0) (pe_glob (v := .str "strike") rfl T.s_STRUCK.choose_spec ⟨_, rfl⟩) (nomark _)))))) (pss_one (ps_ret pe_bl)) pss_nil)
      (pss_one (ps_ret (pe_callB (k_all (K := K) rfl rfl) (by rfl) T.f_all (by decide +kernel) (pa_cons (pe_lc (own := [("letter", 1)]) rfl sc_is_name.nd (k_any (K := K) rfl (pv 0)) (blkOk_by (own := [("letter", 1)]) (N := N_is_name) (sc := defScope (top 12)) (by decide +kernel)) (fun _ _ _ _ _ => (pg_name (i := 1) sc_is_name.nd rfl (by first | exact Or.inl rfl | exact Or.inr rfl))) (fun _ _ _ _ _ => pts_nil) (fun _ _ _ _ _ => (pe_cmpR (k_in (K := K) rfl (hu_of hr)) (pv 1) (pe_glob (v := .str "abcdefghijklmnopqrstuvwxyz") rfl T.s_LETTERS.choose_spec ⟨_, rfl⟩) (by rfl)))) pa_nil))))), ?_⟩
  rintro ds g Q ⟨rfl, s, ⟨rfl, hl⟩, hQ⟩
  have no : isName s = false → Q (dB false) [] := fun e => by
    have q := hQ
    simp only [e] at q
    exact q
  walk_at "go"
  refine ite2 (fun h1 => ?_) (fun h1 => ?_)
  · walk_at "go"
    refine ite2 (fun h2 => ?_) (fun h2 => ?_)
    · walk_at "go"
      refine no ?_
      have h3 : ¬ s.length ≤ 8 := by
        intro z
        have : ((s.length : Nat) : Int) ≤ 8 := by omega
        rw [decide_eq_true this] at h2
        cases h2
      simp [isName, h3]
    · walk_at "go"
      refine ite2 (fun h4 => ?_) (fun h4 => ?_)
      · walk_at "go"
        refine no ?_
        have h5 : s = "strike" := of_decide_eq_true h4
        simp [isName, h5]
      · walk_at "go"
        refine lc_map (α := Nat) (fun c => dB (decide (c ∈ letters.cps.toList))) (yi_any ?_)
        walk_at "go"
        refine ⟨_, _, .str s, by simp, s.cps.toList, _, rfl, ?_, fun c hc => wgc_name (by simp) ?_, ?_⟩
        · have : s.cps.toList.length = s.length := by simp [Str.length]
          omega
        · walk_at "go"
          exact ⟨rfl, rfl⟩
        · walk_at "go"
          refine rc_all (bs := s.cps.toList.map fun c => decide (c ∈ letters.cps.toList)) (.im _) (by rw [List.map_map]; rfl) ?_
          have e : isName s = (s.cps.toList.map fun c => decide (c ∈ letters.cps.toList)).all id := by
            have h6 : 1 ≤ s.length := by have := of_decide_eq_true h1; omega
            have h7 : s.length ≤ 8 := by
              apply Classical.byContradiction
              intro z
              exact h2 (by rw [decide_eq_false (by omega)]; rfl)
            have h8 : ¬ s = "strike" := fun z => h4 (decide_eq_true z)
            simp [isName, h6, h7, h8, List.all_map, Function.comp_def]
          rw [← e]
          exact hQ
  · walk_at "go"
    refine no ?_
    have h3 : ¬ 1 ≤ s.length := fun z => h1 (decide_eq_true (by omega))
    simp only [isName, decide_eq_false h3, Bool.false_and]
def R_check_fresh : RS := detR (α := Str × D × G) (fun x ds g => ds = [dS x.1, x.2.1] ∧ g = x.2.2 ∧ x.1.length ≤ 1000 ∧ isName x.1 = true ∧ Holds1 g x.2.1 x.1 false) (fun _ => dN) (fun x => x.2.2)
abbrev N_check_fresh : List Str := ["word", "known"]
theorem sc_check_fresh : FnScope N_check_fresh ["word", "known"] (defScope (top 18)) := ⟨rfl, rfl, rfl, by decide +kernel, rfl, by decide +kernel, by decide +kernel⟩
theorem ok_check_fresh {f : Addr} {fd : FuncData} (T : Txt K mg) (c_is_name : Cal P w K mg base CX0 1 "is_name" ["thing"] (spR R_is_name)) (F : FunD K "check_fresh" "check_fresh" (defArgs (top 18)) (defBody (top 18)) (defScope (top 18)) [] [] f fd) : FnOk P w K mg base CX0 2 f fd ["word", "known"] (spR R_check_fresh) := by
  refine okW F sc_check_fresh (by rintro ds g Q ⟨x, ⟨rfl, _⟩, _⟩; rfl) fun cdv A outer s H E hr => ⟨_, PSs.nox (pss_cons (ps_if (pt_not (pt_val (pe_cal c_is_name (hr.mono (by decide)) rfl pass0 (pa_cons (pv 0) pa_nil)))) (pss_one ps_never) pss_nil)
      (pss_one (ps_if (pt_cmpR (k_in (K := K) rfl (hu_of hr)) (pv 0) (pv 1) (by rfl)) (pss_one ps_never) pss_nil))), ?_⟩
  rintro ds g Q ⟨⟨s, d, g⟩, ⟨rfl, rfl, hl, hn, h⟩, hQ⟩
  walk_at "go"
  refine ye_callP ?_
  walk_at "go"
  refine ⟨rfl, s, ⟨rfl, hl⟩, ?_⟩
  walk_at "go"
  rw [hn]
  walk_at "go"
  refine inA_H h ?_
  walk_at "go"
  exact hQ
/-- kinds as they are handed in, as they are kept -/
def dKinds (ks : List (Str × Bool)) : D := .lst (ks.map fun k => .tup [dS k.1, dB k.2])
def dKindT (ks : List (Str × Bool)) : D := .dic (ks.map fun k => Sum.inr k.1) (ks.map fun k => dB k.2)
structure WfNames (ns : List Str) : Prop where
  nd : ns.Nodup
  ok : ∀ n ∈ ns, isName n = true
  len : ∀ n ∈ ns, n.length ≤ 8
  few : ns.length ≤ 100
def R_kinds_of : RS := pureR (α := List (Str × Bool)) (fun ks ds => ds = [dKinds ks] ∧ WfNames (ks.map (·.1))) dKindT
abbrev N_kinds_of : List Str := ["kinds", "found", "word", "is_open"]
theorem sc_kinds_of : FnScope N_kinds_of ["kinds"] (defScope (top 19)) := ⟨rfl, rfl, rfl, by decide +kernel, rfl, by decide +kernel, by decide +kernel⟩
theorem ok_kinds_of {f : Addr} {fd : FuncData} (T : Txt K mg) (c_check_fresh : Cal P w K mg base CX0 2 "check_fresh" ["word", "known"] (spR R_check_fresh)) (F : FunD K "kinds_of" "kinds_of" (defArgs (top 19)) (defBody (top 19)) (defScope (top 19)) [] [] f fd) : FnOk P w K mg base CX0 3 f fd ["kinds"] (spR R_kinds_of) := by
  refine okW F sc_kinds_of (by rintro ds g Q ⟨_, x, ⟨rfl, _⟩, _⟩; rfl) fun cdv A outer s H E hr => ⟨_, PSs.nox (pss_cons (ps_set (i := 1) sc_kinds_of.nd rfl (by first | exact Or.inl rfl | exact Or.inr rfl) pe_dnewK)
      (pss_cons (ps_for PassesOwn.never rfl (k_any (K := K) rfl (pv 0)) (k_tup (K := K) (n := 2) rfl rfl (pgs_cons (pg_name (i := 2) sc_kinds_of.nd rfl (by first | exact Or.inl rfl | exact Or.inr rfl)) (pgs_cons (pg_name (i := 3) sc_kinds_of.nd rfl (by first | exact Or.inl rfl | exact Or.inr rfl)) pgs_nil))) (pss_cons (ps_expr (pe_cal c_check_fresh (hr.mono (by decide)) rfl pass0 (pa_cons (pv 2) (pa_cons (pv 1) pa_nil))))
      (pss_one (ps_dput (hu_of hr) (pv 1) (pv 2) (pv 3) rfl))))
      (pss_one (ps_ret (pe_frz (pv 1)))))), ?_⟩
  rintro ds g Q ⟨rfl, kk, ⟨rfl, wf⟩, hQ⟩
  walk_at "go"
  refine ye_dnewM fun a ha => ?_
  walk_at "go"
  refine ws_for (yi_any ?_)
  walk_at "go"
  refine ⟨_, _, .lst _, fun i e gg => ∃ x y, e = [some (dKinds kk), some (.v (.ref a)), x, y] ∧ gg = [(a, MO.dic ((kk.take i).map fun k => Sum.inr k.1) ((kk.take i).map fun k => dB k.2))], ⟨none, none, rfl, rfl⟩, fun _ _ _ _ c hc => by simp at hc, ?_, ?_⟩
  · rintro i d e gg hd ⟨x, y, rfl, rfl⟩
    obtain ⟨k, hk, rfl⟩ := map_get hd
    have hin : k.1 ∈ kk.map (·.1) := List.mem_map.mpr ⟨k, List.mem_of_getElem? hk, rfl⟩
    have hnew : (Sum.inr k.1 : Key) ∉ (kk.take i).map fun k => Sum.inr k.1 := fun z => by
      obtain ⟨k2, h2, e2⟩ := List.mem_map.mp z
      have nd := wf.nd
      rw [← List.take_append_drop (i + 1) kk, take_succ' hk, List.append_assoc, List.map_append] at nd
      refine (List.nodup_append.mp nd).2.2 k2.1 (List.mem_map.mpr ⟨k2, h2, rfl⟩) k.1 (by simp) (Sum.inr.inj e2)
    have hlt : i < kk.length := (List.getElem?_eq_some_iff.mp hk).1
    have hfew := wf.few
    rw [List.length_map] at hfew
    refine wg_tupN (by repeat constructor) ⟨_, rfl, rfl, rfl, ?_⟩
    walk_at "go"
    refine ye_call ?_
    walk_at "go"
    refine ⟨[(a, _)], [], rfl, ⟨k.1, .v (.ref a), _⟩, ⟨rfl, rfl, ?_, wf.ok _ hin, ?_⟩, ?_⟩
    · show k.1.length ≤ 1000
      have := wf.len _ hin; omega
    · have e1 := Holds1.dic (.v (.ref a)) _ _ k.1 (.mu a ((kk.take i).map fun k => Sum.inr k.1) ((kk.take i).map fun k => dB k.2) (List.mem_singleton.mpr rfl))
      rw [kin_not hnew] at e1
      exact e1
    walk_at "go"
    refine ws_dput ?_
    walk_at "go"
    refine ⟨a, _, _, Sum.inr k.1, rfl, rfl, List.mem_singleton.mpr rfl, ?_, ?_, some (dS k.1), some (dB k.2), rfl, ?_⟩
    · have nd := (List.take_sublist i (kk.map (·.1))).nodup wf.nd
      rw [← List.map_take] at nd
      rw [show ((kk.take i).map fun k => (Sum.inr k.1 : Key)) = ((kk.take i).map (·.1)).map Sum.inr from by rw [List.map_map]; rfl]
      exact List.Pairwise.map _ (fun a b h e => h (Sum.inr.inj e)) nd
    · rw [List.length_map, List.length_take]; omega
    · show setG [(a, _)] a _ = _
      rw [setG_one, dput_fresh (by simp) hnew, take_succ' hk, List.map_append, List.map_append]
      rfl
  · rintro e gg ⟨x, y, rfl, rfl⟩
    rw [List.length_map, List.take_length]
    refine ws_ret (ye_frz ?_)
    walk_at "go"
    exact ⟨a, [], _, _, rfl, rfl, hQ⟩
end
end Ls
set_option Elab.async false
set_option linter.all false
set_option maxRecDepth 100000
set_option maxHeartbeats 4000000
set_option autoImplicit false
namespace Ls
open PySem PySem.Spec PyProof.Rows L2 Dl
local macro_rules | `(tactic| walk_at "nof") => `(tactic| first
  | with_reducible exact Txt.n_Column_word (by assumption)
  | with_reducible exact Txt.n_Column_home (by assumption)
  | with_reducible exact Txt.n_Column_goal (by assumption)
  | with_reducible exact Txt.n_Column_rule (by assumption)
  | with_reducible exact Txt.n_Book_open_kinds (by assumption)
  | with_reducible exact Txt.n_Book_column_rows (by assumption)
  | with_reducible exact Txt.n_Book_column_table (by assumption)
  | with_reducible exact Txt.n_Book_all_checks (by assumption)
  | with_reducible exact Txt.n_Book_own_checks (by assumption)
  | with_reducible exact Txt.n_Watch_law_book (by assumption)
  | with_reducible exact Txt.n_Watch_home (by assumption)
  | with_reducible exact Txt.n_Watch_can_mark (by assumption)
  | with_reducible exact Txt.n_Watch_sorts (by assumption)
  | with_reducible exact Txt.n_KindWatch_law_book (by assumption)
  | with_reducible exact Txt.n_KindWatch_home (by assumption)
  | with_reducible exact Txt.n_KindWatch_can_mark (by assumption)
  | with_reducible exact Txt.n_KindWatch_sorts (by assumption)
  | with_reducible exact Txt.n_ColumnWatch_law_book (by assumption)
  | with_reducible exact Txt.n_ColumnWatch_home (by assumption)
  | with_reducible exact Txt.n_ColumnWatch_can_mark (by assumption)
  | with_reducible exact Txt.n_ColumnWatch_sorts (by assumption)
  | with_reducible exact Txt.n_ColumnWatch_by (by assumption)
  | with_reducible exact Txt.n_ColumnWatch_goal (by assumption)
  | with_reducible exact Txt.n_ColumnWatch_other_column (by assumption)
  | with_reducible exact Txt.n_Weaver_watch (by assumption)
  | with_reducible exact Txt.n_Weaver_way (by assumption)
  | with_reducible exact Txt.n_Weaver_made (by assumption)
  | with_reducible exact Txt.n_Weaver_held (by assumption)
  | with_reducible exact Txt.n_Weaver_chains (by assumption)
  | with_reducible exact Txt.n_Weaver_unused (by assumption))
local macro_rules | `(tactic| walk_at "cls") => `(tactic| first
  | with_reducible exact Txt.cl_Column (by assumption)
  | with_reducible exact Txt.cl_Book (by assumption)
  | with_reducible exact Txt.cl_Watch (by assumption)
  | with_reducible exact Txt.cl_KindWatch (by assumption)
  | with_reducible exact Txt.cl_ColumnWatch (by assumption)
  | with_reducible exact Txt.cl_Weaver (by assumption))
local macro_rules | `(tactic| walk_at "dlf") => `(tactic| first
  | with_reducible exact dlf_Column_word ..
  | with_reducible exact dlf_Column_home ..
  | with_reducible exact dlf_Column_goal ..
  | with_reducible exact dlf_Column_rule ..
  | with_reducible exact dlf_Book_open_kinds ..
  | with_reducible exact dlf_Book_column_rows ..
  | with_reducible exact dlf_Book_column_table ..
  | with_reducible exact dlf_Book_all_checks ..
  | with_reducible exact dlf_Book_own_checks ..
  | with_reducible exact dlf_Watch_law_book ..
  | with_reducible exact dlf_Watch_home ..
  | with_reducible exact dlf_Watch_can_mark ..
  | with_reducible exact dlf_Watch_sorts ..
  | with_reducible exact dlf_KindWatch_law_book ..
  | with_reducible exact dlf_KindWatch_home ..
  | with_reducible exact dlf_KindWatch_can_mark ..
  | with_reducible exact dlf_KindWatch_sorts ..
  | with_reducible exact dlf_ColumnWatch_law_book ..
  | with_reducible exact dlf_ColumnWatch_home ..
  | with_reducible exact dlf_ColumnWatch_can_mark ..
  | with_reducible exact dlf_ColumnWatch_sorts ..
  | with_reducible exact dlf_ColumnWatch_by ..
  | with_reducible exact dlf_ColumnWatch_goal ..
  | with_reducible exact dlf_ColumnWatch_other_column ..
  | with_reducible exact dlf_Weaver_watch ..
  | with_reducible exact dlf_Weaver_way ..
  | with_reducible exact dlf_Weaver_made ..
  | with_reducible exact dlf_Weaver_held ..
  | with_reducible exact dlf_Weaver_chains ..
  | with_reducible exact dlf_Weaver_unused ..)
local macro_rules | `(tactic| walk_at "len") => `(tactic| first | decide | (simp; done) | omega | (simp; omega) | (simp only [PySem.Str.length_append, sizeLine_eq, len_empty, len_space]; omega))
local macro_rules | `(tactic| walk_at "go1") => `(tactic| first
  | with_reducible refine ws_seq ?_
  | with_reducible refine ws_set ?_
  | with_reducible refine ws_ret ?_
  | with_reducible refine ws_if ?_
  | with_reducible refine ws_drop ?_
  | with_reducible refine ws_next ?_
  | with_reducible refine ws_retN ?_
  | with_reducible refine ws_cont ?_
  | with_reducible refine ws_brk ?_
  | with_reducible refine ws_asg ?_
  | with_reducible refine ye_var (by with_unfolding_all rfl) ?_
  | with_reducible refine ye_c ?_
  | with_reducible refine ye_op ?_
  | with_reducible refine ye_cb ?_
  | with_reducible refine ye_bm ?_
  | with_reducible refine ye_m1 ?_
  | with_reducible refine ye_if ?_
  | with_reducible refine ye_andV ?_
  | with_reducible refine ye_orV ?_
  | with_reducible refine ye_notV ?_
  | with_reducible refine ye_join ?_
  | with_reducible refine ye_fmt ?_
  | with_reducible refine ye_fld ?_
  | with_reducible refine ye_items ?_
  | with_reducible refine ye_sl ?_
  | with_reducible refine ye_tup ?_
  | with_reducible refine yo_none ?_
  | with_reducible refine yo_some ?_
  | with_reducible refine yt_B ?_
  | with_reducible refine yt_test ?_
  | with_reducible refine yt_and ?_
  | with_reducible refine yt_or ?_
  | with_reducible refine yt_not ?_
  | with_reducible refine yt_yes ?_
  | with_reducible refine ya_nil ?_
  | with_reducible refine ya_cons ?_
  | with_reducible refine ya_starA ?_
  | with_reducible refine yj_nil ?_
  | with_reducible refine yj_cons ?_
  | with_reducible refine wg_name ?_
  | with_reducible refine eqA_S ?_
  | with_reducible refine neA_S ?_
  | with_reducible refine eqA_I ?_
  | with_reducible refine neA_I ?_
  | with_reducible refine addA_I ?_
  | with_reducible refine rd_I0 ?_
  | with_reducible refine isi_SS ?_
  | with_reducible refine rc_strS ?_
  | with_reducible refine rd_isN ?_
  | with_reducible refine rd_notN ?_
  | with_reducible refine chain_I ?_
  | with_reducible refine rc_lenS (by walk_at "len") ?_
  | with_reducible refine inA_S ?_
  | with_reducible refine ws_fld1 (by with_unfolding_all rfl) (by walk_at "cls") (by walk_at "nof") (by decide +kernel) (by decide +kernel) ?_
  | with_reducible refine ⟨_, _, _, _, OV.im _ _ _, by walk_at "cls", by walk_at "nof", by walk_at "dlf", ?_⟩
  | with_reducible refine ⟨_, _, _, _, OV.mu _ _ _ _ (List.mem_singleton.mpr rfl), by walk_at "cls", by walk_at "nof", by with_unfolding_all rfl, ?_⟩
  | with_reducible refine ⟨(rfl : ([_] : G) = _), ?_⟩
  | with_reducible refine ⟨_, _, _, rfl, rfl, rfl, ?_⟩
  | refine iteT ?_
  | refine iteF ?_
  | with_reducible refine ⟨_, rfl, ?_⟩
  | with_reducible refine ⟨(by walk_at "len" : List.length _ ≤ _), ?_⟩
  | with_reducible refine ⟨(by walk_at "len" : PySem.Str.length _ ≤ _), ?_⟩)
local macro_rules | `(tactic| walk_at "go") => `(tactic| repeat walk_at "go1")
local macro_rules | `(tactic| walk_at "end") => `(tactic| first | rfl | exact ⟨rfl, rfl⟩ | exact ⟨_, rfl, rfl⟩ | exact ⟨_, _, rfl, rfl⟩)
local macro_rules | `(tactic| walk_at "auto1") => `(tactic| first | walk_at "go1" | walk_at "own" | refine iteT' (by decide +kernel) ?_ | refine iteF' (by decide +kernel) ?_ | refine iteB (fun h => ?_) (fun h => ?_))
local macro_rules | `(tactic| walk_at "auto") => `(tactic| repeat' walk_at "auto1")
section
variable {P : Program} {w : World} {K : PySem.W.Frag} {mg : Str → Option Value} {base : Heap}
structure Col where
  word : Str
  home : Str
  goal : Str
  fall : Bool
  deriving DecidableEq
def Col.rule (c : Col) : Str := if c.fall then "fall" else "clear"
def dRow (c : Col) : D := .tup [dS c.word, dS c.home, dS c.goal, dS c.rule]
structure WfB (kk : List (Str × Bool)) (cc : List Col) : Prop where
  names : WfNames (kk.map (·.1) ++ cc.map (·.word))
  home : ∀ c ∈ cc, c.home ∈ kk.map (·.1)
  goal : ∀ c ∈ cc, c.goal ∈ kk.map (·.1)
theorem WfB.kinds {kk : List (Str × Bool)} {cc : List Col} (w : WfB kk cc) : WfNames (kk.map (·.1)) :=
  ⟨(List.nodup_append.mp w.names.nd).1, fun n h => w.names.ok n (by simp only [List.mem_append]; exact .inl h), fun n h => w.names.len n (by simp only [List.mem_append]; exact .inl h), by have := w.names.few; rw [List.length_append] at this; omega⟩
theorem inr_nodup {α : Type} {f : α → Str} {xs : List α} (h : (xs.map f).Nodup) : (xs.map fun x => (Sum.inr (f x) : Key)).Nodup := by
  rw [show (xs.map fun x => (Sum.inr (f x) : Key)) = (xs.map f).map Sum.inr from by rw [List.map_map]; rfl]
  exact List.Pairwise.map _ (fun a b h e => h (Sum.inr.inj e)) h
theorem new_at {α : Type} {f : α → Str} {pre : List Str} {xs : List α} {i : Nat} {x : α} (nd : (pre ++ xs.map f).Nodup) (h : xs[i]? = some x) : f x ∉ pre ++ (xs.take i).map f := fun z => by
  rw [← List.take_append_drop (i + 1) xs, take_succ' h, List.append_assoc, List.map_append, ← List.append_assoc] at nd
  exact (List.nodup_append.mp nd).2.2 _ z (f x) (by simp) rfl
def R_column_rows_of : RS := pureR (α := List (Str × Bool) × List Col) (fun x ds => ds = [.lst (x.2.map dRow), dKindT x.1] ∧ WfB x.1 x.2) (fun x => .lst (x.2.map dRow))
abbrev N_column_rows_of : List Str := ["columns", "kinds", "found", "word", "home", "goal", "rule", "kind", "row"]
theorem sc_column_rows_of : FnScope N_column_rows_of ["columns", "kinds"] (defScope (top 20)) := ⟨rfl, rfl, rfl, by decide +kernel, rfl, by decide +kernel, by decide +kernel⟩
theorem ok_column_rows_of {f : Addr} {fd : FuncData} (T : Txt K mg) (c_check_fresh : Cal P w K mg base CX0 2 "check_fresh" ["word", "known"] (spR R_check_fresh)) (c_stands_in : Cal P w K mg base CX0 1 "stands_in" ["thing", "names"] (spR R_stands_in)) (F : FunD K "column_rows_of" "column_rows_of" (defArgs (top 20)) (defBody (top 20)) (defScope (top 20)) [] [] f fd) : FnOk P w K mg base CX0 3 f fd ["columns", "kinds"] (spR R_column_rows_of) := by
  refine okW F sc_column_rows_of (by rintro ds g Q ⟨_, x, ⟨rfl, _⟩, _⟩; rfl) fun cdv A outer s H E hr => ⟨_, PSs.nox (pss_cons (ps_set (i := 2) sc_column_rows_of.nd rfl (by first | exact Or.inl rfl | exact Or.inr rfl) (pe_lst pa_nil))
      (pss_cons (ps_for PassesOwn.never rfl (k_any (K := K) rfl (pv 0)) (k_tup (K := K) (n := 4) rfl rfl (pgs_cons (pg_name (i := 3) sc_column_rows_of.nd rfl (by first | exact Or.inl rfl | exact Or.inr rfl)) (pgs_cons (pg_name (i := 4) sc_column_rows_of.nd rfl (by first | exact Or.inl rfl | exact Or.inr rfl)) (pgs_cons (pg_name (i := 5) sc_column_rows_of.nd rfl (by first | exact Or.inl rfl | exact Or.inr rfl)) (pgs_cons (pg_name (i := 6) sc_column_rows_of.nd rfl (by first | exact Or.inl rfl | exact Or.inr rfl)) pgs_nil))))) (pss_cons (ps_expr (pe_cal c_check_fresh (hr.mono (by decide)) rfl pass0 (pa_cons (pv 3) (pa_cons (pe_lst (k_starA (K := K) rfl rfl (pv 1) (k_starA (K := K) rfl rfl (pe_lc (own := [("row", 8)]) rfl sc_column_rows_of.nd (k_any (K := K) rfl (pv 2)) (blkOk_by (own := [("row", 8)]) (N := N_column_rows_of) (sc := defScope (top 20)) (by decide +kernel)) (fun _ _ _ _ _ => (pg_name (i := 8) sc_column_rows_of.nd rfl (by first | exact Or.inl rfl | exact Or.inr rfl))) (fun _ _ _ _ _ => pts_nil) (fun _ _ _ _ _ => (pe_ix (k_ix (K := K) rfl (hu_of hr)) (pv 8) pe_int (fun _ _ => rfl)))) pa_nil))) pa_nil))))
      (pss_cons (ps_for PassesOwn.never rfl (k_any (K := K) rfl (pe_tup (pa_cons (pv 4) (pa_cons (pv 5) pa_nil)))) (pg_name (i := 7) sc_column_rows_of.nd rfl (by first | exact Or.inl rfl | exact Or.inr rfl)) (pss_one (ps_if (pt_not (pt_val (pe_cal c_stands_in (hr.mono (by decide)) rfl pass0 (pa_cons (pv 7) (pa_cons (pv 1) pa_nil))))) (pss_one ps_never) pss_nil)))
      (pss_cons (ps_if (pt_not (pt_val (pe_cal c_stands_in (hr.mono (by decide)) rfl pass0 (pa_cons (pv 6) (pa_cons (pe_tup (pa_cons (pe_glob (v := .str "fall") rfl T.s_FALL.choose_spec ⟨_, rfl⟩) (pa_cons (pe_glob (v := .str "clear") rfl T.s_CLEAR.choose_spec ⟨_, rfl⟩) pa_nil))) pa_nil))))) (pss_one ps_never) pss_nil)
      (pss_one (ps_expr (k_bm (K := K) rfl PySem.F.plainAttrs_list PySem.F.slot_list_append PySem.F.type_list_append mt_append (pv 2) (pa_cons (pe_tup (pa_cons (pv 3) (pa_cons (pv 4) (pa_cons (pv 5) (pa_cons (pv 6) pa_nil))))) pa_nil))))))))
      (pss_one (ps_ret (pe_frz (pv 2)))))), ?_⟩
  rintro ds g Q ⟨rfl, ⟨kk, cc⟩, ⟨rfl, wf⟩, hQ⟩
  replace wf : WfB kk cc := wf
  walk_at "go"
  refine ye_lstM ?_
  walk_at "go"
  intro a ha
  walk_at "go"
  refine ws_for (yi_any ?_)
  walk_at "go"
  refine ⟨_, _, .lst _, fun i e gg => ∃ x1 x2 x3 x4 x5 x6, e = [some (.lst (cc.map dRow)), some (dKindT kk), some (.v (.ref a)), x1, x2, x3, x4, x5, x6] ∧ gg = [(a, MO.lst ((cc.take i).map dRow))], ⟨none, none, none, none, none, none, rfl, rfl⟩, fun _ _ _ _ c hc => by simp at hc, ?_, ?_⟩
  · rintro i d e gg hd ⟨x1, x2, x3, x4, x5, x6, rfl, rfl⟩
    obtain ⟨c, hc, rfl⟩ := map_get hd
    have hin : c ∈ cc := List.mem_of_getElem? hc
    replace hc : cc[i]? = some c := hc
    have hnew := new_at wf.names.nd hc
    have hlt : i < cc.length := (List.getElem?_eq_some_iff.mp hc).1
    have hfew := wf.names.few
    rw [List.length_append, List.length_map, List.length_map] at hfew
    have hw : c.word ∈ kk.map (·.1) ++ cc.map (·.word) := by simp only [List.mem_append, List.mem_map]; exact .inr ⟨c, hin, rfl⟩
    refine wg_tupN (by repeat constructor) ⟨_, rfl, rfl, rfl, ?_⟩
    walk_at "go"
    refine ye_call ?_
    walk_at "go"
    refine ye_lst ?_
    walk_at "go"
    refine ⟨_, .dic _ _ _ (.im _ _), ?_⟩
    walk_at "go"
    refine lc_map (α := Col) (fun c => dS c.word) (yi_any ?_)
    walk_at "go"
    refine ⟨_, _, .cell a ((cc.take i).map dRow) (List.mem_singleton.mpr rfl), fun c hc => hc, cc.take i, _, rfl, by rw [List.length_take]; omega, fun c hc => wgc_name (by simp) ?_, ?_⟩
    · walk_at "go"
      exact ixA_L (.t _) rfl ⟨rfl, rfl⟩
    refine ⟨_, .sq _ _ (.l _ _ (.im _)), ?_⟩
    walk_at "go"
    refine ⟨[], [(a, _)], rfl, ⟨c.word, _, []⟩, ⟨rfl, rfl, ?_, wf.names.ok _ hw, ?_⟩, ?_⟩
    · show c.word.length ≤ 1000
      have := wf.names.len _ hw; omega
    · have e1 := Holds1.lst (g := []) (.lst ((kk.map (·.1) ++ (cc.take i).map (·.word)).map dS)) _ c.word (.l _ _ (.im _))
      rw [decide_eq_false hnew] at e1
      rw [List.map_append, List.map_map, List.map_map] at e1
      show Holds1 [] (.lst (List.map (fun k => D.v (kV k)) (List.map (fun k => Sum.inr k.1) kk) ++ (List.map (fun c => dS c.word) (List.take i cc) ++ []))) c.word false
      rw [List.append_nil, List.map_map]
      exact e1
    walk_at "go"
    refine ws_for (yi_any ?_)
    walk_at "go"
    refine ⟨_, _, .tup _, fun j e gg => ∃ x, e = [some (.lst (cc.map dRow)), some (dKindT kk), some (.v (.ref a)), some (dS c.word), some (dS c.home), some (dS c.goal), some (dS c.rule), x, x6] ∧ gg = [(a, MO.lst ((cc.take i).map dRow))], ⟨x5, rfl, rfl⟩, fun _ _ _ _ c hc => by simp at hc, ?_, ?_⟩
    · rintro j d e gg hd ⟨x, rfl, rfl⟩
      have hd2 : ∃ k, d = dS k ∧ k ∈ kk.map (·.1) := by
        match j, hd with
        | 0, hd => cases hd; exact ⟨_, rfl, wf.home c hin⟩
        | 1, hd => cases hd; exact ⟨_, rfl, wf.goal c hin⟩
        | j + 2, hd => simp at hd
      obtain ⟨k, rfl, hk⟩ := hd2
      walk_at "go"
      refine ye_callP ?_
      walk_at "go"
      refine ⟨⟨k, _, true, []⟩, ⟨rfl, rfl, ?_⟩, ?_⟩
      · have e1 := Holds1.dic (g := []) (dKindT kk) _ _ k (.im _ _)
        rw [kin_strs, decide_eq_true hk] at e1
        exact e1
      walk_at "go"
      walk_at "end"
    · rintro e gg ⟨x, rfl, rfl⟩
      walk_at "go"
      refine ye_callP ?_
      walk_at "go"
      refine ⟨⟨c.rule, _, true, []⟩, ⟨rfl, rfl, ?_⟩, ?_⟩
      · have e1 := Holds1.lst (g := []) (.tup ((["fall", "clear"] : List Str).map dS)) _ c.rule (.t _)
        rw [decide_eq_true (by unfold Col.rule; cases c.fall <;> simp)] at e1
        exact e1
      walk_at "go"
      refine ⟨ty_list (.mu a _ (List.mem_singleton.mpr rfl)), ?_⟩
      walk_at "go"
      refine rm_append (List.mem_singleton.mpr rfl) (by rw [List.length_map, List.length_take]; omega) ?_
      refine ⟨_, _, _, _, _, _, rfl, ?_⟩
      show setG [(a, _)] a _ = _
      rw [setG_one, take_succ' hc, List.map_append]
      rfl
  · rintro e gg ⟨x1, x2, x3, x4, x5, x6, rfl, rfl⟩
    rw [List.length_map, List.take_length]
    refine ws_ret (ye_frzL ?_)
    walk_at "go"
    exact ⟨a, [], _, rfl, rfl, hQ⟩
end
end Ls
set_option Elab.async false
set_option linter.all false
set_option maxRecDepth 100000
set_option maxHeartbeats 4000000
set_option autoImplicit false
namespace Ls
open PySem PySem.Spec PyProof.Rows L2 Dl
local macro_rules | `(tactic| walk_at "nof") => `(tactic| first
  | with_reducible exact Txt.n_Column_word (by assumption)
  | with_reducible exact Txt.n_Column_home (by assumption)
  | with_reducible exact Txt.n_Column_goal (by assumption)
  | with_reducible exact Txt.n_Column_rule (by assumption)
  | with_reducible exact Txt.n_Book_open_kinds (by assumption)
  | with_reducible exact Txt.n_Book_column_rows (by assumption)
  | with_reducible exact Txt.n_Book_column_table (by assumption)
  | with_reducible exact Txt.n_Book_all_checks (by assumption)
  | with_reducible exact Txt.n_Book_own_checks (by assumption)
  | with_reducible exact Txt.n_Watch_law_book (by assumption)
  | with_reducible exact Txt.n_Watch_home (by assumption)
  | with_reducible exact Txt.n_Watch_can_mark (by assumption)
  | with_reducible exact Txt.n_Watch_sorts (by assumption)
  | with_reducible exact Txt.n_KindWatch_law_book (by assumption)
  | with_reducible exact Txt.n_KindWatch_home (by assumption)
  | with_reducible exact Txt.n_KindWatch_can_mark (by assumption)
  | with_reducible exact Txt.n_KindWatch_sorts (by assumption)
  | with_reducible exact Txt.n_ColumnWatch_law_book (by assumption)
  | with_reducible exact Txt.n_ColumnWatch_home (by assumption)
  | with_reducible exact Txt.n_ColumnWatch_can_mark (by assumption)
  | with_reducible exact Txt.n_ColumnWatch_sorts (by assumption)
  | with_reducible exact Txt.n_ColumnWatch_by (by assumption)
  | with_reducible exact Txt.n_ColumnWatch_goal (by assumption)
  | with_reducible exact Txt.n_ColumnWatch_other_column (by assumption)
  | with_reducible exact Txt.n_Weaver_watch (by assumption)
  | with_reducible exact Txt.n_Weaver_way (by assumption)
  | with_reducible exact Txt.n_Weaver_made (by assumption)
  | with_reducible exact Txt.n_Weaver_held (by assumption)
  | with_reducible exact Txt.n_Weaver_chains (by assumption)
  | with_reducible exact Txt.n_Weaver_unused (by assumption))
local macro_rules | `(tactic| walk_at "cls") => `(tactic| first
  | with_reducible exact Txt.cl_Column (by assumption)
  | with_reducible exact Txt.cl_Book (by assumption)
  | with_reducible exact Txt.cl_Watch (by assumption)
  | with_reducible exact Txt.cl_KindWatch (by assumption)
  | with_reducible exact Txt.cl_ColumnWatch (by assumption)
  | with_reducible exact Txt.cl_Weaver (by assumption))
local macro_rules | `(tactic| walk_at "dlf") => `(tactic| first
  | with_reducible exact dlf_Column_word ..
  | with_reducible exact dlf_Column_home ..
  | with_reducible exact dlf_Column_goal ..
  | with_reducible exact dlf_Column_rule ..
  | with_reducible exact dlf_Book_open_kinds ..
  | with_reducible exact dlf_Book_column_rows ..
  | with_reducible exact dlf_Book_column_table ..
  | with_reducible exact dlf_Book_all_checks ..
  | with_reducible exact dlf_Book_own_checks ..
  | with_reducible exact dlf_Watch_law_book ..
  | with_reducible exact dlf_Watch_home ..
  | with_reducible exact dlf_Watch_can_mark ..
  | with_reducible exact dlf_Watch_sorts ..
  | with_reducible exact dlf_KindWatch_law_book ..
  | with_reducible exact dlf_KindWatch_home ..
  | with_reducible exact dlf_KindWatch_can_mark ..
  | with_reducible exact dlf_KindWatch_sorts ..
  | with_reducible exact dlf_ColumnWatch_law_book ..
  | with_reducible exact dlf_ColumnWatch_home ..
  | with_reducible exact dlf_ColumnWatch_can_mark ..
  | with_reducible exact dlf_ColumnWatch_sorts ..
  | with_reducible exact dlf_ColumnWatch_by ..
  | with_reducible exact dlf_ColumnWatch_goal ..
  | with_reducible exact dlf_ColumnWatch_other_column ..
  | with_reducible exact dlf_Weaver_watch ..
  | with_reducible exact dlf_Weaver_way ..
  | with_reducible exact dlf_Weaver_made ..
  | with_reducible exact dlf_Weaver_held ..
  | with_reducible exact dlf_Weaver_chains ..
  | with_reducible exact dlf_Weaver_unused ..)
local macro_rules | `(tactic| walk_at "len") => `(tactic| first | decide | (simp; done) | omega | (simp; omega) | (simp only [PySem.Str.length_append, sizeLine_eq, len_empty, len_space]; omega))
local macro_rules | `(tactic| walk_at "go1") => `(tactic| first
  | with_reducible refine ws_seq ?_
  | with_reducible refine ws_set ?_
  | with_reducible refine ws_ret ?_
  | with_reducible refine ws_if ?_
  | with_reducible refine ws_drop ?_
  | with_reducible refine ws_next ?_
  | with_reducible refine ws_retN ?_
  | with_reducible refine ws_cont ?_
  | with_reducible refine ws_brk ?_
  | with_reducible refine ws_asg ?_
  | with_reducible refine ye_var (by with_unfolding_all rfl) ?_
  | with_reducible refine ye_c ?_
  | with_reducible refine ye_op ?_
  | with_reducible refine ye_cb ?_
  | with_reducible refine ye_bm ?_
  | with_reducible refine ye_m1 ?_
  | with_reducible refine ye_if ?_
  | with_reducible refine ye_andV ?_
  | with_reducible refine ye_orV ?_
  | with_reducible refine ye_notV ?_
  | with_reducible refine ye_join ?_
  | with_reducible refine ye_fmt ?_
  | with_reducible refine ye_fld ?_
  | with_reducible refine ye_items ?_
  | with_reducible refine ye_sl ?_
  | with_reducible refine ye_tup ?_
  | with_reducible refine yo_none ?_
  | with_reducible refine yo_some ?_
  | with_reducible refine yt_B ?_
  | with_reducible refine yt_test ?_
  | with_reducible refine yt_and ?_
  | with_reducible refine yt_or ?_
  | with_reducible refine yt_not ?_
  | with_reducible refine yt_yes ?_
  | with_reducible refine ya_nil ?_
  | with_reducible refine ya_cons ?_
  | with_reducible refine ya_starA ?_
  | with_reducible refine yj_nil ?_
  | with_reducible refine yj_cons ?_
  | with_reducible refine wg_name ?_
  | with_reducible refine eqA_S ?_
  | with_reducible refine neA_S ?_
  | with_reducible refine eqA_I ?_
  | with_reducible refine neA_I ?_
  | with_reducible refine addA_I ?_
  | with_reducible refine rd_I0 ?_
  | with_reducible refine isi_SS ?_
  | with_reducible refine rc_strS ?_
  | with_reducible refine rd_isN ?_
  | with_reducible refine rd_notN ?_
  | with_reducible refine chain_I ?_
  | with_reducible refine rc_lenS (by walk_at "len") ?_
  | with_reducible refine inA_S ?_
  | with_reducible refine ws_fld1 (by with_unfolding_all rfl) (by walk_at "cls") (by walk_at "nof") (by decide +kernel) (by decide +kernel) ?_
  | with_reducible refine ⟨_, _, _, _, OV.im _ _ _, by walk_at "cls", by walk_at "nof", by walk_at "dlf", ?_⟩
  | with_reducible refine ⟨_, _, _, _, OV.mu _ _ _ _ (List.mem_singleton.mpr rfl), by walk_at "cls", by walk_at "nof", by with_unfolding_all rfl, ?_⟩
  | with_reducible refine ⟨(rfl : ([_] : G) = _), ?_⟩
  | with_reducible refine ⟨_, _, _, rfl, rfl, rfl, ?_⟩
  | refine iteT ?_
  | refine iteF ?_
  | with_reducible refine ⟨_, rfl, ?_⟩
  | with_reducible refine ⟨(by walk_at "len" : List.length _ ≤ _), ?_⟩
  | with_reducible refine ⟨(by walk_at "len" : PySem.Str.length _ ≤ _), ?_⟩)
local macro_rules | `(tactic| walk_at "go") => `(tactic| repeat walk_at "go1")
local macro_rules | `(tactic| walk_at "end") => `(tactic| first | rfl | exact ⟨rfl, rfl⟩ | exact ⟨_, rfl, rfl⟩ | exact ⟨_, _, rfl, rfl⟩)
local macro_rules | `(tactic| walk_at "auto1") => `(tactic| first | walk_at "go1" | walk_at "own" | refine iteT' (by decide +kernel) ?_ | refine iteF' (by decide +kernel) ?_ | refine iteB (fun h => ?_) (fun h => ?_))
local macro_rules | `(tactic| walk_at "auto") => `(tactic| repeat' walk_at "auto1")
section
variable {P : Program} {w : World} {K : PySem.W.Frag} {mg : Str → Option Value} {base : Heap}
/-! ### checks -/
def chk (a b : Str) : Str := (a ++ " ") ++ b
def colSorts : List Str := ["put", "turn", "keep", "hold", "again"]
def kindSorts : List Str := ["bare", "calm", "again"]
/-- the menu, from the names of the kinds and of the columns -/
def menu (kk cc : List Str) : List Str := (cc.map fun c => colSorts.map fun s => chk s c).flatten ++ (kk.map fun k => kindSorts.map fun s => chk s k).flatten ++ (["lone", "fresh"] : List Str)
def keyD (ns : List Str) (xs : List D) : D := .dic (ns.map Sum.inr) xs
def R_checks_of : RS := pureR (α := List Str × List Str) (fun x ds => ds = [.lst (x.1.map dS), .lst (x.2.map dS)] ∧ (∀ c ∈ x.1, c ∈ x.2) ∧ x.2.length < 1000000) (fun x => .lst ((x.2.filter fun c => decide (c ∈ x.1)).map dS))
abbrev N_checks_of : List Str := ["checks", "menu", "check"]
theorem sc_checks_of : FnScope N_checks_of ["checks", "menu"] (defScope (top 21)) := ⟨rfl, rfl, rfl, by decide +kernel, rfl, by decide +kernel, by decide +kernel⟩
theorem ok_checks_of {f : Addr} {fd : FuncData} (T : Txt K mg) (c_stands_in : Cal P w K mg base CX0 1 "stands_in" ["thing", "names"] (spR R_stands_in)) (F : FunD K "checks_of" "checks_of" (defArgs (top 21)) (defBody (top 21)) (defScope (top 21)) [] [] f fd) : FnOk P w K mg base CX0 2 f fd ["checks", "menu"] (spR R_checks_of) := by
  refine okW F sc_checks_of (by rintro ds g Q ⟨_, x, ⟨rfl, _⟩, _⟩; rfl) fun cdv A outer s H E hr => ⟨_, PSs.nox (pss_cons (ps_for PassesOwn.never rfl (k_any (K := K) rfl (pv 0)) (pg_name (i := 2) sc_checks_of.nd rfl (by first | exact Or.inl rfl | exact Or.inr rfl)) (pss_one (ps_if (pt_not (pt_val (pe_cal c_stands_in (hr.mono (by decide)) rfl pass0 (pa_cons (pv 2) (pa_cons (pv 1) pa_nil))))) (pss_one ps_never) pss_nil)))
      (pss_one (ps_ret (pe_lc (own := [("check", 2)]) rfl sc_checks_of.nd (k_any (K := K) rfl (pv 1)) (blkOk_by (own := [("check", 2)]) (N := N_checks_of) (sc := defScope (top 21)) (by decide +kernel)) (fun _ _ _ _ _ => (pg_name (i := 2) sc_checks_of.nd rfl (by first | exact Or.inl rfl | exact Or.inr rfl))) (fun _ _ _ _ _ => (pts_one (pt_cmpR (k_in (K := K) rfl (hu_of hr)) (pv 2) (pe_callTy (k_list (K := K) rfl) (by rfl) T.f_list boot_list (pa_cons (pv 0) pa_nil)) (by rfl)))) (fun _ _ _ _ _ => (pv 2)))))), ?_⟩
  rintro ds g Q ⟨rfl, ⟨ch, mm⟩, ⟨rfl, hin, hl⟩, hQ⟩
  replace hin : ∀ c ∈ ch, c ∈ mm := hin
  replace hl : mm.length < 1000000 := hl
  walk_at "go"
  refine ws_for (yi_any ?_)
  walk_at "go"
  refine ⟨_, _, .lst _, fun i e gg => ∃ x1, e = [some (.lst (ch.map dS)), some (.lst (mm.map dS)), x1] ∧ gg = [], ⟨none, rfl, rfl⟩, fun _ _ _ _ c hc => by simp at hc, ?_, ?_⟩
  · rintro i d e gg hd ⟨x1, rfl, rfl⟩
    obtain ⟨c, hc, rfl⟩ := map_get hd
    walk_at "go"
    refine ye_callP ?_
    walk_at "go"
    refine ⟨⟨c, _, true, []⟩, ⟨rfl, rfl, ?_⟩, ?_⟩
    · have e1 := Holds1.lst (g := []) (.lst (mm.map dS)) _ c (.l _ _ (.im _))
      rw [decide_eq_true (hin c (List.mem_of_getElem? hc))] at e1
      exact e1
    walk_at "go"
    walk_at "end"
  · rintro e gg ⟨x1, rfl, rfl⟩
    walk_at "go"
    refine lc_fn (α := Str) (fun c => decide (c ∈ ch)) dS (yi_any ?_)
    walk_at "go"
    refine ⟨_, _, .lst _, fun c hc => by simp at hc, mm, _, rfl, hl, fun c hc => wgc_name (by simp) ?_, hQ⟩
    walk_at "go"
    refine rc_list (.l _ _ (.im _)) ?_
    refine inA_L (neg := false) (.l _ _ (.im _)) rfl ?_
    walk_at "go"
    refine ⟨rfl, fun _ => ?_, fun _ => rfl⟩
    walk_at "go"
    exact ⟨rfl, rfl⟩
theorem take_flat {α β : Type} {f : α → List β} {xs : List α} {i : Nat} {x : α} (h : xs[i]? = some x) : ((xs.take (i + 1)).map f).flatten = ((xs.take i).map f).flatten ++ f x := by
  rw [take_succ' h, List.map_append, List.flatten_append]; simp
theorem flat_len {α β : Type} {f : α → List β} {n : Nat} : ∀ {xs : List α}, (∀ x ∈ xs, (f x).length ≤ n) → ((xs.map f).flatten).length ≤ xs.length * n
  | [], _ => by simp
  | x :: xs, h => by
    have h1 := flat_len (xs := xs) fun y hy => h y (by simp [hy])
    have h2 := h x (by simp)
    rw [List.map_cons, List.flatten_cons, List.length_append, List.length_cons, Nat.succ_mul]; omega
theorem flat_take {α β : Type} {f : α → List β} {n i : Nat} {xs : List α} (h : ∀ x ∈ xs, (f x).length ≤ n) : (((xs.take i).map f).flatten).length ≤ xs.length * n :=
  Nat.le_trans (flat_len fun x hx => h x (List.mem_of_mem_take hx)) (Nat.mul_le_mul_right n (List.length_take_le' i xs))
def R_menu_of : RS := pureR (α := List Str × List Str × List D × List D) (fun x ds => ds = [keyD x.1 x.2.2.1, keyD x.2.1 x.2.2.2] ∧ WfNames (x.1 ++ x.2.1)) (fun x => .lst ((menu x.1 x.2.1).map dS))
abbrev N_menu_of : List Str := ["kinds", "columns", "found", "word", "sort"]
theorem sc_menu_of : FnScope N_menu_of ["kinds", "columns"] (defScope (top 22)) := ⟨rfl, rfl, rfl, by decide +kernel, rfl, by decide +kernel, by decide +kernel⟩
theorem ok_menu_of {f : Addr} {fd : FuncData} (T : Txt K mg)  (F : FunD K "menu_of" "menu_of" (defArgs (top 22)) (defBody (top 22)) (defScope (top 22)) [] [] f fd) : FnOk P w K mg base CX0 1 f fd ["kinds", "columns"] (spR R_menu_of) := by
  refine okW F sc_menu_of (by rintro ds g Q ⟨_, x, ⟨rfl, _⟩, _⟩; rfl) fun cdv A outer s H E hr => ⟨_, PSs.nox (pss_cons (ps_set (i := 2) sc_menu_of.nd rfl (by first | exact Or.inl rfl | exact Or.inr rfl) (pe_lst pa_nil))
      (pss_cons (ps_for PassesOwn.never rfl (k_any (K := K) rfl (pv 1)) (pg_name (i := 3) sc_menu_of.nd rfl (by first | exact Or.inl rfl | exact Or.inr rfl)) (pss_one (ps_expr (k_bm (K := K) rfl PySem.F.plainAttrs_list PySem.F.slot_list_extend PySem.F.type_list_extend mt_extend (pv 2) (pa_cons (pe_lc (own := [("sort", 4)]) rfl sc_menu_of.nd (k_any (K := K) rfl (pe_tup (pa_cons pe_str (pa_cons pe_str (pa_cons pe_str (pa_cons pe_str (pa_cons pe_str pa_nil))))))) (blkOk_by (own := [("sort", 4)]) (N := N_menu_of) (sc := defScope (top 22)) (by decide +kernel)) (fun _ _ _ _ _ => (pg_name (i := 4) sc_menu_of.nd rfl (by first | exact Or.inl rfl | exact Or.inr rfl))) (fun _ _ _ _ _ => pts_nil) (fun _ _ _ _ _ => (pe_join2 (.cons (pe_fmt (pv 4)) (.cons pe_str (.cons (pe_fmt (pv 3)) .nil)))))) pa_nil)))))
      (pss_cons (ps_for PassesOwn.never rfl (k_any (K := K) rfl (pv 0)) (pg_name (i := 3) sc_menu_of.nd rfl (by first | exact Or.inl rfl | exact Or.inr rfl)) (pss_one (ps_expr (k_bm (K := K) rfl PySem.F.plainAttrs_list PySem.F.slot_list_extend PySem.F.type_list_extend mt_extend (pv 2) (pa_cons (pe_lc (own := [("sort", 4)]) rfl sc_menu_of.nd (k_any (K := K) rfl (pe_tup (pa_cons pe_str (pa_cons pe_str (pa_cons pe_str pa_nil))))) (blkOk_by (own := [("sort", 4)]) (N := N_menu_of) (sc := defScope (top 22)) (by decide +kernel)) (fun _ _ _ _ _ => (pg_name (i := 4) sc_menu_of.nd rfl (by first | exact Or.inl rfl | exact Or.inr rfl))) (fun _ _ _ _ _ => pts_nil) (fun _ _ _ _ _ => (pe_join2 (.cons (pe_fmt (pv 4)) (.cons pe_str (.cons (pe_fmt (pv 3)) .nil)))))) pa_nil)))))
      (pss_one (ps_ret (pe_lst (k_starA (K := K) rfl rfl (pv 2) (pa_cons pe_str (pa_cons pe_str pa_nil))))))))), ?_⟩
  rintro ds g Q ⟨rfl, ⟨kk, cc, xk, xc⟩, ⟨rfl, wf⟩, hQ⟩
  replace wf : WfNames (kk ++ cc) := wf
  have few := wf.few
  rw [List.length_append] at few
  walk_at "go"
  refine ye_lstM ?_
  walk_at "go"
  intro a ha
  walk_at "go"
  refine ws_for (yi_any ?_)
  walk_at "go"
  refine ⟨_, _, .keys _ _, fun i e gg => ∃ x1 x2, e = [some (keyD kk xk), some (keyD cc xc), some (.v (.ref a)), x1, x2] ∧ gg = [(a, MO.lst ((((cc.take i).map fun c => colSorts.map fun s => chk s c).flatten).map dS))], ⟨none, none, rfl, rfl⟩, fun _ _ _ _ c hc => by simp at hc, ?_, ?_⟩
  · rintro i d e gg hd ⟨x1, x2, rfl, rfl⟩
    rw [List.map_map] at hd
    obtain ⟨c, hc, rfl⟩ := map_get hd
    have hcl : c.length ≤ 8 := wf.len c (by simp only [List.mem_append]; exact .inr (List.mem_of_getElem? hc))
    walk_at "go"
    refine ⟨ty_list (.mu a _ (List.mem_singleton.mpr rfl)), ?_⟩
    walk_at "go"
    refine lc_map (α := Str) (fun s => dS (chk s c)) (yi_any ?_)
    walk_at "go"
    refine ⟨_, _, .tup _, fun c hc => by simp at hc, colSorts, dS, rfl, by decide, fun s hs => wgc_name (by simp) ?_, ?_⟩
    · have hsl : s.length ≤ 5 := (by decide +kernel : ∀ s ∈ colSorts, s.length ≤ 5) s hs
      walk_at "go"
      rw [empty_app]; rfl
    walk_at "go"
    refine rm_extend (List.mem_singleton.mpr rfl) (.im _) ?_ ?_
    · have := flat_take (i := i) (xs := cc) (f := fun c => colSorts.map fun s => chk s c) (n := 5) fun x hx => by simp [colSorts]
      rw [List.length_map, List.length_map]
      have : colSorts.length = 5 := rfl
      omega
    refine ⟨_, _, rfl, ?_⟩
    show setG [(a, _)] a _ = _
    rw [setG_one, take_flat hc, List.map_append, List.map_map]
    rfl
  · rintro e gg ⟨x1, x2, rfl, rfl⟩
    rw [List.length_map, List.length_map, List.take_length]
    generalize hC : (cc.map fun c => colSorts.map fun s => chk s c).flatten = CC
    have hCl : CC.length ≤ cc.length * 5 := by rw [← hC]; exact flat_len fun x hx => by simp [colSorts]
    walk_at "go"
    refine ws_for (yi_any ?_)
    walk_at "go"
    refine ⟨_, _, .keys _ _, fun i e gg => ∃ x1 x2, e = [some (keyD kk xk), some (keyD cc xc), some (.v (.ref a)), x1, x2] ∧ gg = [(a, MO.lst ((CC ++ (((kk.take i).map fun c => kindSorts.map fun s => chk s c).flatten)).map dS))], ⟨_, _, rfl, by simp⟩, fun _ _ _ _ c hc => by simp at hc, ?_, ?_⟩
    · rintro i d e gg hd ⟨x1, x2, rfl, rfl⟩
      rw [List.map_map] at hd
      obtain ⟨c, hc, rfl⟩ := map_get hd
      have hcl : c.length ≤ 8 := wf.len c (by simp only [List.mem_append]; exact .inl (List.mem_of_getElem? hc))
      walk_at "go"
      refine ⟨ty_list (.mu a _ (List.mem_singleton.mpr rfl)), ?_⟩
      walk_at "go"
      refine lc_map (α := Str) (fun s => dS (chk s c)) (yi_any ?_)
      walk_at "go"
      refine ⟨_, _, .tup _, fun c hc => by simp at hc, kindSorts, dS, rfl, by decide, fun s hs => wgc_name (by simp) ?_, ?_⟩
      · have hsl : s.length ≤ 5 := (by decide +kernel : ∀ s ∈ kindSorts, s.length ≤ 5) s hs
        walk_at "go"
        rw [empty_app]; rfl
      walk_at "go"
      refine rm_extend (List.mem_singleton.mpr rfl) (.im _) ?_ ?_
      · have := flat_take (i := i) (xs := kk) (f := fun c => kindSorts.map fun s => chk s c) (n := 3) fun x hx => by simp [kindSorts]
        rw [List.length_map, List.length_map, List.length_append]
        have : kindSorts.length = 3 := rfl
        omega
      refine ⟨_, _, rfl, ?_⟩
      show setG [(a, _)] a _ = _
      rw [setG_one, take_flat hc, ← List.append_assoc, List.map_append (l₂ := List.map _ kindSorts), List.map_map]
      rfl
    · rintro e gg ⟨x1, x2, rfl, rfl⟩
      rw [List.length_map, List.length_map, List.take_length]
      generalize hK : (kk.map fun c => kindSorts.map fun s => chk s c).flatten = KK
      walk_at "go"
      refine ye_sub (ye_lst ?_)
      walk_at "go"
      refine ⟨_, .sq _ _ (.l _ _ (.mu a _ (List.mem_singleton.mpr rfl))), ?_⟩
      walk_at "go"
      have hKl : KK.length ≤ kk.length * 3 := by rw [← hK]; exact flat_len fun x hx => by simp [kindSorts]
      refine ⟨?_, [], by simp, ?_⟩
      · simp only [List.length_append, List.length_map, List.length_cons, List.length_nil]; omega
      · have e : D.lst ((menu kk cc).map dS) = .lst (List.map dS (CC ++ KK) ++ [D.v (V.str "lone"), D.v (V.str "fresh")]) := by
          unfold menu
          rw [hC, hK, List.map_append]; rfl
        replace hQ : Q (.lst ((menu kk cc).map dS)) [] := hQ
        rw [e] at hQ
        exact hQ
end
end Ls
set_option Elab.async false
set_option linter.all false
set_option maxRecDepth 100000
set_option maxHeartbeats 4000000
set_option autoImplicit false
namespace Ls
open PySem PySem.Spec PyProof.Rows L2 Dl
local macro_rules | `(tactic| walk_at "nof") => `(tactic| first
  | with_reducible exact Txt.n_Column_word (by assumption)
  | with_reducible exact Txt.n_Column_home (by assumption)
  | with_reducible exact Txt.n_Column_goal (by assumption)
  | with_reducible exact Txt.n_Column_rule (by assumption)
  | with_reducible exact Txt.n_Book_open_kinds (by assumption)
  | with_reducible exact Txt.n_Book_column_rows (by assumption)
  | with_reducible exact Txt.n_Book_column_table (by assumption)
  | with_reducible exact Txt.n_Book_all_checks (by assumption)
  | with_reducible exact Txt.n_Book_own_checks (by assumption)
  | with_reducible exact Txt.n_Watch_law_book (by assumption)
  | with_reducible exact Txt.n_Watch_home (by assumption)
  | with_reducible exact Txt.n_Watch_can_mark (by assumption)
  | with_reducible exact Txt.n_Watch_sorts (by assumption)
  | with_reducible exact Txt.n_KindWatch_law_book (by assumption)
  | with_reducible exact Txt.n_KindWatch_home (by assumption)
  | with_reducible exact Txt.n_KindWatch_can_mark (by assumption)
  | with_reducible exact Txt.n_KindWatch_sorts (by assumption)
  | with_reducible exact Txt.n_ColumnWatch_law_book (by assumption)
  | with_reducible exact Txt.n_ColumnWatch_home (by assumption)
  | with_reducible exact Txt.n_ColumnWatch_can_mark (by assumption)
  | with_reducible exact Txt.n_ColumnWatch_sorts (by assumption)
  | with_reducible exact Txt.n_ColumnWatch_by (by assumption)
  | with_reducible exact Txt.n_ColumnWatch_goal (by assumption)
  | with_reducible exact Txt.n_ColumnWatch_other_column (by assumption)
  | with_reducible exact Txt.n_Weaver_watch (by assumption)
  | with_reducible exact Txt.n_Weaver_way (by assumption)
  | with_reducible exact Txt.n_Weaver_made (by assumption)
  | with_reducible exact Txt.n_Weaver_held (by assumption)
  | with_reducible exact Txt.n_Weaver_chains (by assumption)
  | with_reducible exact Txt.n_Weaver_unused (by assumption))
local macro_rules | `(tactic| walk_at "cls") => `(tactic| first
  | with_reducible exact Txt.cl_Column (by assumption)
  | with_reducible exact Txt.cl_Book (by assumption)
  | with_reducible exact Txt.cl_Watch (by assumption)
  | with_reducible exact Txt.cl_KindWatch (by assumption)
  | with_reducible exact Txt.cl_ColumnWatch (by assumption)
  | with_reducible exact Txt.cl_Weaver (by assumption))
local macro_rules | `(tactic| walk_at "dlf") => `(tactic| first
  | with_reducible exact dlf_Column_word ..
  | with_reducible exact dlf_Column_home ..
  | with_reducible exact dlf_Column_goal ..
  | with_reducible exact dlf_Column_rule ..
  | with_reducible exact dlf_Book_open_kinds ..
  | with_reducible exact dlf_Book_column_rows ..
  | with_reducible exact dlf_Book_column_table ..
  | with_reducible exact dlf_Book_all_checks ..
  | with_reducible exact dlf_Book_own_checks ..
  | with_reducible exact dlf_Watch_law_book ..
  | with_reducible exact dlf_Watch_home ..
  | with_reducible exact dlf_Watch_can_mark ..
  | with_reducible exact dlf_Watch_sorts ..
  | with_reducible exact dlf_KindWatch_law_book ..
  | with_reducible exact dlf_KindWatch_home ..
  | with_reducible exact dlf_KindWatch_can_mark ..
  | with_reducible exact dlf_KindWatch_sorts ..
  | with_reducible exact dlf_ColumnWatch_law_book ..
  | with_reducible exact dlf_ColumnWatch_home ..
  | with_reducible exact dlf_ColumnWatch_can_mark ..
  | with_reducible exact dlf_ColumnWatch_sorts ..
  | with_reducible exact dlf_ColumnWatch_by ..
  | with_reducible exact dlf_ColumnWatch_goal ..
  | with_reducible exact dlf_ColumnWatch_other_column ..
  | with_reducible exact dlf_Weaver_watch ..
  | with_reducible exact dlf_Weaver_way ..
  | with_reducible exact dlf_Weaver_made ..
  | with_reducible exact dlf_Weaver_held ..
  | with_reducible exact dlf_Weaver_chains ..
  | with_reducible exact dlf_Weaver_unused ..)
local macro_rules | `(tactic| walk_at "len") => `(tactic| first | decide | (simp; done) | omega | (simp; omega) | (simp only [PySem.Str.length_append, sizeLine_eq, len_empty, len_space]; omega))
local macro_rules | `(tactic| walk_at "go1") => `(tactic| first
  | with_reducible refine ws_seq ?_
  | with_reducible refine ws_set ?_
  | with_reducible refine ws_ret ?_
  | with_reducible refine ws_if ?_
  | with_reducible refine ws_drop ?_
  | with_reducible refine ws_next ?_
  | with_reducible refine ws_retN ?_
  | with_reducible refine ws_cont ?_
  | with_reducible refine ws_brk ?_
  | with_reducible refine ws_asg ?_
  | with_reducible refine ye_var (by with_unfolding_all rfl) ?_
  | with_reducible refine ye_c ?_
  | with_reducible refine ye_op ?_
  | with_reducible refine ye_cb ?_
  | with_reducible refine ye_bm ?_
  | with_reducible refine ye_m1 ?_
  | with_reducible refine ye_if ?_
  | with_reducible refine ye_andV ?_
  | with_reducible refine ye_orV ?_
  | with_reducible refine ye_notV ?_
  | with_reducible refine ye_join ?_
  | with_reducible refine ye_fmt ?_
  | with_reducible refine ye_fld ?_
  | with_reducible refine ye_items ?_
  | with_reducible refine ye_sl ?_
  | with_reducible refine ye_tup ?_
  | with_reducible refine yo_none ?_
  | with_reducible refine yo_some ?_
  | with_reducible refine yt_B ?_
  | with_reducible refine yt_test ?_
  | with_reducible refine yt_and ?_
  | with_reducible refine yt_or ?_
  | with_reducible refine yt_not ?_
  | with_reducible refine yt_yes ?_
  | with_reducible refine ya_nil ?_
  | with_reducible refine ya_cons ?_
  | with_reducible refine ya_starA ?_
  | with_reducible refine yj_nil ?_
  | with_reducible refine yj_cons ?_
  | with_reducible refine wg_name ?_
  | with_reducible refine eqA_S ?_
  | with_reducible refine neA_S ?_
  | with_reducible refine eqA_I ?_
  | with_reducible refine neA_I ?_
  | with_reducible refine addA_I ?_
  | with_reducible refine rd_I0 ?_
  | with_reducible refine isi_SS ?_
  | with_reducible refine rc_strS ?_
  | with_reducible refine rd_isN ?_
  | with_reducible refine rd_notN ?_
  | with_reducible refine chain_I ?_
  | with_reducible refine rc_lenS (by walk_at "len") ?_
  | with_reducible refine inA_S ?_
  | with_reducible refine ws_fld1 (by with_unfolding_all rfl) (by walk_at "cls") (by walk_at "nof") (by decide +kernel) (by decide +kernel) ?_
  | with_reducible refine ⟨_, _, _, _, OV.im _ _ _, by walk_at "cls", by walk_at "nof", by walk_at "dlf", ?_⟩
  | with_reducible refine ⟨_, _, _, _, OV.mu _ _ _ _ (List.mem_singleton.mpr rfl), by walk_at "cls", by walk_at "nof", by with_unfolding_all rfl, ?_⟩
  | with_reducible refine ⟨(rfl : ([_] : G) = _), ?_⟩
  | with_reducible refine ⟨_, _, _, rfl, rfl, rfl, ?_⟩
  | refine iteT ?_
  | refine iteF ?_
  | with_reducible refine ⟨_, rfl, ?_⟩
  | with_reducible refine ⟨(by walk_at "len" : List.length _ ≤ _), ?_⟩
  | with_reducible refine ⟨(by walk_at "len" : PySem.Str.length _ ≤ _), ?_⟩)
local macro_rules | `(tactic| walk_at "go") => `(tactic| repeat walk_at "go1")
local macro_rules | `(tactic| walk_at "end") => `(tactic| first | rfl | exact ⟨rfl, rfl⟩ | exact ⟨_, rfl, rfl⟩ | exact ⟨_, _, rfl, rfl⟩)
local macro_rules | `(tactic| walk_at "auto1") => `(tactic| first | walk_at "go1" | walk_at "own" | refine iteT' (by decide +kernel) ?_ | refine iteF' (by decide +kernel) ?_ | refine iteB (fun h => ?_) (fun h => ?_))
local macro_rules | `(tactic| walk_at "auto") => `(tactic| repeat' walk_at "auto1")
section
variable {P : Program} {w : World} {K : PySem.W.Frag} {mg : Str → Option Value} {base : Heap}
theorem ye_stands {env : DEnv} {g : G} {tr : TA} {X : XK} {Ψ : D → G → Prop} (h : YA tr env g fun ds g1 => ∃ s d b, ds = [dS s, d] ∧ Holds1 [] d s b ∧ Ψ (dB b) g1) : YE (tCall (spR R_stands_in) [] X tr) env g Ψ :=
  ye_callP fun M σ H s Q k => h M σ H s Q fun ds g1 vs H1 ⟨s, d, b, e, p, q⟩ t c r => k ds g1 vs H1 ⟨⟨s, d, b, []⟩, ⟨e, rfl, p⟩, q⟩ t c r
theorem holds_strs {ss : List Str} {s : Str} : Holds1 [] (.lst (ss.map dS)) s (decide (s ∈ ss)) := .lst _ _ _ (.l _ _ (.im _))
theorem holds_kinds {kk : List (Str × Bool)} {s : Str} : Holds1 [] (dKindT kk) s (decide (s ∈ kk.map (·.1))) := by
  have e1 := Holds1.dic (g := []) (dKindT kk) _ _ s (.im _ _)
  rw [kin_strs] at e1
  exact e1
/-! ### books -/
abbrev dCol (K : PySem.W.Frag) (c : Col) : D := .obj (He.ga K "Column") fs_Column [dS c.word, dS c.home, dS c.goal, dS c.rule]
abbrev dColT (K : PySem.W.Frag) (cc : List Col) : D := .dic (cc.map fun c => Sum.inr c.word) (cc.map (dCol K))
/-- a book: the kinds, the columns, the checks in the order of the menu -/
structure BookS where
  kk : List (Str × Bool)
  cc : List Col
  ch : List Str
def BookS.menu (b : BookS) : List Str := Ls.menu (b.kk.map (·.1)) (b.cc.map (·.word))
structure WfBook (b : BookS) : Prop extends WfB b.kk b.cc where
  ch : b.ch = b.menu.filter fun c => decide (c ∈ b.ch)
abbrev fldsBook (K : PySem.W.Frag) (b : BookS) : List D := [dKindT b.kk, .lst (b.cc.map dRow), dColT K b.cc, .lst (b.menu.map dS), .lst (b.ch.map dS)]
abbrev dBook (K : PySem.W.Frag) (b : BookS) : D := .obj (He.ga K "Book") fs_Book (fldsBook K b)
theorem menu_len {kk cc : List Str} : (menu kk cc).length = cc.length * 5 + kk.length * 3 + 2 := by
  unfold menu
  simp [colSorts, kindSorts, List.length_flatten, Function.comp_def, List.map_const', List.sum_replicate_nat]; omega
def R_Column___init__ (K : PySem.W.Frag) : RS := detR (α := Addr × D × D × D × D) (fun x ds g => ds = [.v (.ref x.1), x.2.1, x.2.2.1, x.2.2.2.1, x.2.2.2.2] ∧ g = [(x.1, .obj (He.ga K "Column") [] [])]) (fun _ => dN) (fun x => [(x.1, .obj (He.ga K "Column") fs_Column [x.2.1, x.2.2.1, x.2.2.2.1, x.2.2.2.2])])
abbrev N_Column___init__ : List Str := ["self", "word", "home", "goal", "rule"]
theorem sc_Column___init__ : FnScope N_Column___init__ ["self", "word", "home", "goal", "rule"] (defScope (inClass (top 17) 0)) := ⟨rfl, rfl, rfl, by decide +kernel, rfl, by decide +kernel, by decide +kernel⟩
theorem ok_Column___init__ {f : Addr} {fd : FuncData} (T : Txt K mg)  (F : FunD K "__init__" "Column.__init__" (defArgs (inClass (top 17) 0)) (defBody (inClass (top 17) 0)) (defScope (inClass (top 17) 0)) [] [] f fd) : FnOk P w K mg base CX0 1 f fd ["self", "word", "home", "goal", "rule"] (spR (R_Column___init__ K)) := by
  refine okW F sc_Column___init__ (by rintro ds g Q ⟨x, ⟨rfl, _⟩, _⟩; rfl) fun cdv A outer s H E hr => ⟨_, PSs.nox (pss_cons (k_sfld (K := K) rfl (pv 0) (pv 1))
      (pss_cons (k_sfld (K := K) rfl (pv 0) (pv 2))
      (pss_cons (k_sfld (K := K) rfl (pv 0) (pv 3))
      (pss_one (k_sfld (K := K) rfl (pv 0) (pv 4)))))), ?_⟩
  rintro ds g Q ⟨⟨a, d1, d2, d3, d4⟩, ⟨rfl, rfl⟩, hQ⟩
  dsimp only
  walk_at "go"
  exact hQ
def R_Book___init__ (K : PySem.W.Frag) : RS := detR (α := Addr × List (Str × Bool) × List Col × List Str) (fun x ds g => ds = [.v (.ref x.1), dKinds x.2.1, .lst (x.2.2.1.map dRow), .lst (x.2.2.2.map dS)] ∧ g = [(x.1, .obj (He.ga K "Book") [] [])] ∧ WfB x.2.1 x.2.2.1 ∧ ∀ c ∈ x.2.2.2, c ∈ menu (x.2.1.map (·.1)) (x.2.2.1.map (·.word)))
  (fun _ => dN) (fun x => [(x.1, .obj (He.ga K "Book") fs_Book (fldsBook K ⟨x.2.1, x.2.2.1, (menu (x.2.1.map (·.1)) (x.2.2.1.map (·.word))).filter fun c => decide (c ∈ x.2.2.2)⟩))])
abbrev N_Book___init__ : List Str := ["self", "kinds", "columns", "checks", "row"]
theorem sc_Book___init__ : FnScope N_Book___init__ ["self", "kinds", "columns", "checks"] (defScope (inClass (top 23) 0)) := ⟨rfl, rfl, rfl, by decide +kernel, rfl, by decide +kernel, by decide +kernel⟩
theorem ok_Book___init__ {dvs : List V} {f : Addr} {fd : FuncData} (T : Txt K mg) (c_kinds_of : Cal P w K mg base CX0 3 "kinds_of" ["kinds"] (spR R_kinds_of)) (c_column_rows_of : Cal P w K mg base CX0 3 "column_rows_of" ["columns", "kinds"] (spR R_column_rows_of)) (c_Column : MkC P w K mg base CX0 1 (He.ga K "Column") "Column" ["self", "word", "home", "goal", "rule"] (spR (R_Column___init__ K))) (c_menu_of : Cal P w K mg base CX0 1 "menu_of" ["kinds", "columns"] (spR R_menu_of)) (c_checks_of : Cal P w K mg base CX0 2 "checks_of" ["checks", "menu"] (spR R_checks_of)) (F : FunD K "__init__" "Book.__init__" (defArgs (inClass (top 23) 0)) (defBody (inClass (top 23) 0)) (defScope (inClass (top 23) 0)) dvs [] f fd) : FnOk P w K mg base CX0 4 f fd ["self", "kinds", "columns", "checks"] (spR (R_Book___init__ K)) := by
  refine okW F sc_Book___init__ (by rintro ds g Q ⟨x, ⟨rfl, _⟩, _⟩; rfl) fun cdv A outer s H E hr => ⟨_, PSs.nox (pss_cons (k_sfld (K := K) rfl (pv 0) (pe_cal c_kinds_of (hr.mono (by decide)) rfl pass0 (pa_cons (pv 1) pa_nil)))
      (pss_cons (k_sfld (K := K) rfl (pv 0) (pe_cal c_column_rows_of (hr.mono (by decide)) rfl pass0 (pa_cons (pv 2) (pa_cons (k_fld (K := K) rfl (pv 0)) pa_nil))))
      (pss_cons (k_sfld (K := K) rfl (pv 0) (pe_frz (pe_dc (own := [("row", 4)]) rfl sc_Book___init__.nd (k_any (K := K) rfl (k_fld (K := K) rfl (pv 0))) (blkOk_by (own := [("row", 4)]) (N := N_Book___init__) (sc := defScope (inClass (top 23) 0)) (by decide +kernel)) (fun _ _ _ _ _ => (pg_name (i := 4) sc_Book___init__.nd rfl (by first | exact Or.inl rfl | exact Or.inr rfl))) (fun _ _ _ _ _ => pts_nil) (fun _ _ _ _ _ => (pe_ix (k_ix (K := K) rfl (hu_of hr)) (pv 4) pe_int (fun _ _ => rfl))) (fun _ _ _ _ _ => (pe_mkc c_Column (hr.mono (by decide)) rfl pass0 (pa_cons (pe_ix (k_ix (K := K) rfl (hu_of hr)) (pv 4) pe_int (fun _ _ => rfl)) (pa_cons (pe_ix (k_ix (K := K) rfl (hu_of hr)) (pv 4) pe_int (fun _ _ => rfl)) (pa_cons (pe_ix (k_ix (K := K) rfl (hu_of hr)) (pv 4) pe_int (fun _ _ => rfl)) (pa_cons (pe_ix (k_ix (K := K) rfl (hu_of hr)) (pv 4) pe_int (fun _ _ => rfl)) pa_nil)))))))))
      (pss_cons (k_sfld (K := K) rfl (pv 0) (pe_cal c_menu_of (hr.mono (by decide)) rfl pass0 (pa_cons (k_fld (K := K) rfl (pv 0)) (pa_cons (k_fld (K := K) rfl (pv 0)) pa_nil))))
      (pss_one (k_sfld (K := K) rfl (pv 0) (pe_cal c_checks_of (hr.mono (by decide)) rfl pass0 (pa_cons (pv 3) (pa_cons (k_fld (K := K) rfl (pv 0)) pa_nil))))))))), ?_⟩
  rintro ds g Q ⟨⟨a, kk, cc, ch⟩, ⟨rfl, rfl, wf, hch⟩, hQ⟩
  replace wf : WfB kk cc := wf
  replace hch : ∀ c ∈ ch, c ∈ menu (kk.map (·.1)) (cc.map (·.word)) := hch
  dsimp only
  walk_at "go"
  refine ye_callQ ?_
  walk_at "go"
  refine ⟨kk, ⟨rfl, wf.kinds⟩, ?_⟩
  walk_at "go"
  refine ye_callQ ?_
  walk_at "go"
  refine ⟨(kk, cc), ⟨rfl, wf⟩, ?_⟩
  walk_at "go"
  refine ye_frz (ye_dc ?_)
  refine yi_any ?_
  walk_at "go"
  have hfew := wf.names.few
  rw [List.length_append, List.length_map, List.length_map] at hfew
  have ndw : (cc.map (·.word)).Nodup := (List.nodup_append.mp wf.names.nd).2.1
  refine ⟨_, _, .lst _, fun i ks acc gg => gg = [(a, .obj (He.ga K "Book") (["open_kinds", "column_rows"] : List Str) [dKindT kk, D.lst (cc.map dRow)])] ∧ ks = (cc.take i).map (fun c => Sum.inr c.word) ∧ acc = (cc.take i).map (dCol K), ⟨rfl, rfl, rfl⟩, ?_, ?_, ?_⟩
  · rintro i ks acc gg ⟨rfl, rfl, rfl⟩
    refine ⟨fun c hc => by simp at hc, inr_nodup ?_, by simp, ?_⟩
    · rw [List.map_take]; exact (List.take_sublist i _).nodup ndw
    · rw [List.length_map, List.length_take]; omega
  · rintro i d ks acc gg hd ⟨rfl, rfl, rfl⟩
    obtain ⟨c, hc, rfl⟩ := map_get hd
    refine wgc_name (by simp) ?_
    walk_at "go"
    refine ixA_L (.t _) rfl ?_
    walk_at "go"
    refine ye_makeQ ?_
    walk_at "go"
    refine ixA_L (.t _) rfl ?_
    walk_at "go"
    refine ixA_L (.t _) rfl ?_
    walk_at "go"
    refine ixA_L (.t _) rfl ?_
    walk_at "go"
    refine ixA_L (.t _) rfl ?_
    walk_at "go"
    refine fun b hb => ⟨(b, dS c.word, dS c.home, dS c.goal, dS c.rule), _, _, ⟨rfl, rfl⟩, rfl, Sum.inr c.word, rfl, ?_⟩
    refine ⟨rfl, ?_⟩
    have hnew : (Sum.inr c.word : Key) ∉ (cc.take i).map (fun c => Sum.inr c.word) := fun z => by
      obtain ⟨c2, h2, e2⟩ := List.mem_map.mp z
      refine new_at (pre := []) (f := fun c : Col => c.word) (xs := cc) (by simpa using ndw) hc ?_
      rw [List.nil_append]
      exact List.mem_map.mpr ⟨c2, h2, Sum.inr.inj e2⟩
    rw [dput_fresh (by simp) hnew, take_succ' hc, List.map_append, List.map_append]
    exact ⟨rfl, rfl⟩
  · rintro ks acc gg ⟨rfl, rfl, rfl⟩ b hb
    rw [List.length_map, List.take_length]
    refine ⟨b, _, _, _, rfl, rfl, ?_⟩
    walk_at "go"
    refine ye_callQ ?_
    walk_at "go"
    refine ⟨(kk.map (·.1), cc.map (·.word), kk.map (fun k => dB k.2), cc.map (dCol K)), ⟨?_, wf.names⟩, ?_⟩
    · unfold keyD dKindT
      rw [List.map_map, List.map_map]; rfl
    walk_at "go"
    refine ye_callQ ?_
    walk_at "go"
    refine ⟨(ch, _), ⟨rfl, hch, ?_⟩, ?_⟩
    · show (menu _ _).length < 1000000
      rw [menu_len, List.length_map, List.length_map]; omega
    walk_at "go"
    exact hQ
def R_Book___contains__ (K : PySem.W.Frag) : RS := pureR (α := BookS × Str) (fun x ds => ds = [dBook K x.1, dS x.2]) (fun x => dB (decide (x.2 ∈ x.1.ch)))
abbrev N_Book___contains__ : List Str := ["self", "check"]
theorem sc_Book___contains__ : FnScope N_Book___contains__ ["self", "check"] (defScope (inClass (top 23) 9)) := ⟨rfl, rfl, rfl, by decide +kernel, rfl, by decide +kernel, by decide +kernel⟩
theorem ok_Book___contains__ {f : Addr} {fd : FuncData} (T : Txt K mg) (c_stands_in : Cal P w K mg base CX0 1 "stands_in" ["thing", "names"] (spR R_stands_in)) (F : FunD K "__contains__" "Book.__contains__" (defArgs (inClass (top 23) 9)) (defBody (inClass (top 23) 9)) (defScope (inClass (top 23) 9)) [] [] f fd) : FnOk P w K mg base CX0 2 f fd ["self", "check"] (spR (R_Book___contains__ K)) := by
  refine okW F sc_Book___contains__ (by rintro ds g Q ⟨_, x, ⟨rfl, _⟩, _⟩; rfl) fun cdv A outer s H E hr => ⟨_, PSs.nox (pss_one (ps_ret (pe_cal c_stands_in (hr.mono (by decide)) rfl pass0 (pa_cons (pv 1) (pa_cons (k_fld (K := K) rfl (pv 0)) pa_nil))))), ?_⟩
  rintro ds g Q ⟨rfl, ⟨b, s⟩, rfl, hQ⟩
  dsimp only
  walk_at "go"
  refine ye_stands ?_
  walk_at "go"
  exact ⟨s, _, _, rfl, holds_strs, hQ⟩
def R_Book_columns_of (K : PySem.W.Frag) : RS := pureR (α := BookS × Str) (fun x ds => ds = [dBook K x.1, dS x.2] ∧ x.2 ∈ x.1.kk.map (·.1) ∧ x.1.cc.length ≤ 100) (fun x => .lst ((x.1.cc.filter fun c => decide (c.home = x.2)).map fun c => dS c.word))
abbrev N_Book_columns_of : List Str := ["self", "kind", "column"]
theorem sc_Book_columns_of : FnScope N_Book_columns_of ["self", "kind"] (defScope (inClass (top 23) 5)) := ⟨rfl, rfl, rfl, by decide +kernel, rfl, by decide +kernel, by decide +kernel⟩
theorem ok_Book_columns_of {f : Addr} {fd : FuncData} (T : Txt K mg) (c_stands_in : Cal P w K mg base CX0 1 "stands_in" ["thing", "names"] (spR R_stands_in)) (F : FunD K "columns_of" "Book.columns_of" (defArgs (inClass (top 23) 5)) (defBody (inClass (top 23) 5)) (defScope (inClass (top 23) 5)) [] [] f fd) : FnOk P w K mg base CX0 2 f fd ["self", "kind"] (spR (R_Book_columns_of K)) := by
  refine okW F sc_Book_columns_of (by rintro ds g Q ⟨_, x, ⟨rfl, _⟩, _⟩; rfl) fun cdv A outer s H E hr => ⟨_, PSs.nox (pss_cons (ps_if (pt_not (pt_val (pe_cal c_stands_in (hr.mono (by decide)) rfl pass0 (pa_cons (pv 1) (pa_cons (k_fld (K := K) rfl (pv 0)) pa_nil))))) (pss_one ps_never) pss_nil)
      (pss_one (ps_ret (pe_lc (own := [("column", 2)]) rfl sc_Book_columns_of.nd (pi_values (k_fld (K := K) rfl (pv 0))) (blkOk_by (own := [("column", 2)]) (N := N_Book_columns_of) (sc := defScope (inClass (top 23) 5)) (by decide +kernel)) (fun _ _ _ _ _ => (pg_name (i := 2) sc_Book_columns_of.nd rfl (by first | exact Or.inl rfl | exact Or.inr rfl))) (fun _ _ _ _ _ => (pts_one (pt_cmpR (k_eq (K := K) rfl hr.units) (k_fld (K := K) rfl (pv 2)) (pv 1) (nomark _)))) (fun _ _ _ _ _ => (k_fld (K := K) rfl (pv 2))))))), ?_⟩
  rintro ds g Q ⟨rfl, ⟨b, s⟩, ⟨rfl, hk, hl⟩, hQ⟩
  replace hk : s ∈ b.kk.map (·.1) := hk
  replace hl : b.cc.length ≤ 100 := hl
  dsimp only
  walk_at "go"
  refine ye_stands ?_
  walk_at "go"
  refine ⟨s, _, _, rfl, holds_kinds, ?_⟩
  rw [decide_eq_true hk]
  walk_at "go"
  refine lc_fn (α := Col) (fun c => decide (c.home = s)) (fun c => dS c.word) (yi_values ?_)
  walk_at "go"
  refine ⟨_, _, rfl, fun c hc => by simp at hc, b.cc, dCol K, rfl, by omega, fun c hc => wgc_name (by simp) ?_, hQ⟩
  walk_at "go"
  refine ⟨rfl, fun _ => ?_, fun _ => rfl⟩
  walk_at "go"
  exact ⟨rfl, rfl⟩
end
end Ls
set_option Elab.async false
set_option linter.all false
set_option maxRecDepth 100000
set_option maxHeartbeats 4000000
set_option autoImplicit false
namespace Ls
open PySem PySem.Spec PyProof.Rows L2 Dl
local macro_rules | `(tactic| walk_at "nof") => `(tactic| first
  | with_reducible exact Txt.n_Column_word (by assumption)
  | with_reducible exact Txt.n_Column_home (by assumption)
  | with_reducible exact Txt.n_Column_goal (by assumption)
  | with_reducible exact Txt.n_Column_rule (by assumption)
  | with_reducible exact Txt.n_Book_open_kinds (by assumption)
  | with_reducible exact Txt.n_Book_column_rows (by assumption)
  | with_reducible exact Txt.n_Book_column_table (by assumption)
  | with_reducible exact Txt.n_Book_all_checks (by assumption)
  | with_reducible exact Txt.n_Book_own_checks (by assumption)
  | with_reducible exact Txt.n_Watch_law_book (by assumption)
  | with_reducible exact Txt.n_Watch_home (by assumption)
  | with_reducible exact Txt.n_Watch_can_mark (by assumption)
  | with_reducible exact Txt.n_Watch_sorts (by assumption)
  | with_reducible exact Txt.n_KindWatch_law_book (by assumption)
  | with_reducible exact Txt.n_KindWatch_home (by assumption)
  | with_reducible exact Txt.n_KindWatch_can_mark (by assumption)
  | with_reducible exact Txt.n_KindWatch_sorts (by assumption)
  | with_reducible exact Txt.n_ColumnWatch_law_book (by assumption)
  | with_reducible exact Txt.n_ColumnWatch_home (by assumption)
  | with_reducible exact Txt.n_ColumnWatch_can_mark (by assumption)
  | with_reducible exact Txt.n_ColumnWatch_sorts (by assumption)
  | with_reducible exact Txt.n_ColumnWatch_by (by assumption)
  | with_reducible exact Txt.n_ColumnWatch_goal (by assumption)
  | with_reducible exact Txt.n_ColumnWatch_other_column (by assumption)
  | with_reducible exact Txt.n_Weaver_watch (by assumption)
  | with_reducible exact Txt.n_Weaver_way (by assumption)
  | with_reducible exact Txt.n_Weaver_made (by assumption)
  | with_reducible exact Txt.n_Weaver_held (by assumption)
  | with_reducible exact Txt.n_Weaver_chains (by assumption)
  | with_reducible exact Txt.n_Weaver_unused (by assumption))
local macro_rules | `(tactic| walk_at "cls") => `(tactic| first
  | with_reducible exact Txt.cl_Column (by assumption)
  | with_reducible exact Txt.cl_Book (by assumption)
  | with_reducible exact Txt.cl_Watch (by assumption)
  | with_reducible exact Txt.cl_KindWatch (by assumption)
  | with_reducible exact Txt.cl_ColumnWatch (by assumption)
  | with_reducible exact Txt.cl_Weaver (by assumption))
local macro_rules | `(tactic| walk_at "dlf") => `(tactic| first
  | with_reducible exact dlf_Column_word ..
  | with_reducible exact dlf_Column_home ..
  | with_reducible exact dlf_Column_goal ..
  | with_reducible exact dlf_Column_rule ..
  | with_reducible exact dlf_Book_open_kinds ..
  | with_reducible exact dlf_Book_column_rows ..
  | with_reducible exact dlf_Book_column_table ..
  | with_reducible exact dlf_Book_all_checks ..
  | with_reducible exact dlf_Book_own_checks ..
  | with_reducible exact dlf_Watch_law_book ..
  | with_reducible exact dlf_Watch_home ..
  | with_reducible exact dlf_Watch_can_mark ..
  | with_reducible exact dlf_Watch_sorts ..
  | with_reducible exact dlf_KindWatch_law_book ..
  | with_reducible exact dlf_KindWatch_home ..
  | with_reducible exact dlf_KindWatch_can_mark ..
  | with_reducible exact dlf_KindWatch_sorts ..
  | with_reducible exact dlf_ColumnWatch_law_book ..
  | with_reducible exact dlf_ColumnWatch_home ..
  | with_reducible exact dlf_ColumnWatch_can_mark ..
  | with_reducible exact dlf_ColumnWatch_sorts ..
  | with_reducible exact dlf_ColumnWatch_by ..
  | with_reducible exact dlf_ColumnWatch_goal ..
  | with_reducible exact dlf_ColumnWatch_other_column ..
  | with_reducible exact dlf_Weaver_watch ..
  | with_reducible exact dlf_Weaver_way ..
  | with_reducible exact dlf_Weaver_made ..
  | with_reducible exact dlf_Weaver_held ..
  | with_reducible exact dlf_Weaver_chains ..
  | with_reducible exact dlf_Weaver_unused ..)
local macro_rules | `(tactic| walk_at "len") => `(tactic| first | decide | (simp; done) | omega | (simp; omega) | (simp only [PySem.Str.length_append, sizeLine_eq, len_empty, len_space]; omega))
local macro_rules | `(tactic| walk_at "go1") => `(tactic| first
  | with_reducible refine ws_seq ?_
  | with_reducible refine ws_set ?_
  | with_reducible refine ws_ret ?_
  | with_reducible refine ws_if ?_
  | with_reducible refine ws_drop ?_
  | with_reducible refine ws_next ?_
  | with_reducible refine ws_retN ?_
  | with_reducible refine ws_cont ?_
  | with_reducible refine ws_brk ?_
  | with_reducible refine ws_asg ?_
  | with_reducible refine ye_var (by with_unfolding_all rfl) ?_
  | with_reducible refine ye_c ?_
  | with_reducible refine ye_op ?_
  | with_reducible refine ye_cb ?_
  | with_reducible refine ye_bm ?_
  | with_reducible refine ye_m1 ?_
  | with_reducible refine ye_if ?_
  | with_reducible refine ye_andV ?_
  | with_reducible refine ye_orV ?_
  | with_reducible refine ye_notV ?_
  | with_reducible refine ye_join ?_
  | with_reducible refine ye_fmt ?_
  | with_reducible refine ye_fld ?_
  | with_reducible refine ye_items ?_
  | with_reducible refine ye_sl ?_
  | with_reducible refine ye_tup ?_
  | with_reducible refine yo_none ?_
  | with_reducible refine yo_some ?_
  | with_reducible refine yt_B ?_
  | with_reducible refine yt_test ?_
  | with_reducible refine yt_and ?_
  | with_reducible refine yt_or ?_
  | with_reducible refine yt_not ?_
  | with_reducible refine yt_yes ?_
  | with_reducible refine ya_nil ?_
  | with_reducible refine ya_cons ?_
  | with_reducible refine ya_starA ?_
  | with_reducible refine yj_nil ?_
  | with_reducible refine yj_cons ?_
  | with_reducible refine wg_name ?_
  | with_reducible refine eqA_S ?_
  | with_reducible refine neA_S ?_
  | with_reducible refine eqA_I ?_
  | with_reducible refine neA_I ?_
  | with_reducible refine addA_I ?_
  | with_reducible refine rd_I0 ?_
  | with_reducible refine isi_SS ?_
  | with_reducible refine rc_strS ?_
  | with_reducible refine rd_isN ?_
  | with_reducible refine rd_notN ?_
  | with_reducible refine chain_I ?_
  | with_reducible refine rc_lenS (by walk_at "len") ?_
  | with_reducible refine inA_S ?_
  | with_reducible refine ws_fld1 (by with_unfolding_all rfl) (by walk_at "cls") (by walk_at "nof") (by decide +kernel) (by decide +kernel) ?_
  | with_reducible refine ⟨_, _, _, _, OV.im _ _ _, by walk_at "cls", by walk_at "nof", by walk_at "dlf", ?_⟩
  | with_reducible refine ⟨_, _, _, _, OV.mu _ _ _ _ (List.mem_singleton.mpr rfl), by walk_at "cls", by walk_at "nof", by with_unfolding_all rfl, ?_⟩
  | with_reducible refine ⟨(rfl : ([_] : G) = _), ?_⟩
  | with_reducible refine ⟨_, _, _, rfl, rfl, rfl, ?_⟩
  | refine iteT ?_
  | refine iteF ?_
  | with_reducible refine ⟨_, rfl, ?_⟩
  | with_reducible refine ⟨(by walk_at "len" : List.length _ ≤ _), ?_⟩
  | with_reducible refine ⟨(by walk_at "len" : PySem.Str.length _ ≤ _), ?_⟩)
local macro_rules | `(tactic| walk_at "go") => `(tactic| repeat walk_at "go1")
local macro_rules | `(tactic| walk_at "end") => `(tactic| first | rfl | exact ⟨rfl, rfl⟩ | exact ⟨_, rfl, rfl⟩ | exact ⟨_, _, rfl, rfl⟩)
local macro_rules | `(tactic| walk_at "auto1") => `(tactic| first | walk_at "go1" | walk_at "own" | refine iteT' (by decide +kernel) ?_ | refine iteF' (by decide +kernel) ?_ | refine iteB (fun h => ?_) (fun h => ?_))
local macro_rules | `(tactic| walk_at "auto") => `(tactic| repeat' walk_at "auto1")
section
variable {P : Program} {w : World} {K : PySem.W.Frag} {mg : Str → Option Value} {base : Heap}
/-! ### which kinds can come to be marked -/
inductive Mk (b : BookS) : Str → Prop
  | op (k : Str) (h : (k, true) ∈ b.kk) : Mk b k
  | dn (c : Col) (h : c ∈ b.cc) (hf : c.fall = true) (hg : Mk b c.goal) : Mk b c.home
open Classical in
noncomputable def markable (b : BookS) : List Str := (b.kk.map (·.1)).filter fun k => decide (Mk b k)
theorem dlk_map {κ α : Type} [DecidableEq κ] {f : α → κ} {r : α → D} : ∀ {xs : List α} {x : α}, (xs.map f).Nodup → x ∈ xs → dlk (xs.map f) (xs.map r) (f x) = some (r x)
  | [], x, _, h => by cases h
  | y :: ys, x, nd, h => by
    rw [List.map_cons, List.map_cons]
    unfold dlk
    rcases List.mem_cons.mp h with rfl | h
    · rw [if_pos rfl]
    · have hne : ¬ f y = f x := fun e => (List.nodup_cons.mp nd).1 (by rw [e]; exact List.mem_map.mpr ⟨x, h, rfl⟩)
      rw [if_neg hne]
      exact dlk_map (List.nodup_cons.mp nd).2 h
def closedB (b : BookS) (ss : List Str) : Prop := ∀ c ∈ b.cc, c.fall = true → c.goal ∈ ss → c.home ∈ ss
structure FoundB (b : BookS) (ss : List Str) : Prop where
  ok : ∀ k ∈ ss, Mk b k
  nd : ss.Nodup
  sub : ∀ k ∈ ss, k ∈ b.kk.map (·.1)
  op : ∀ k, (k, true) ∈ b.kk → k ∈ ss
theorem FoundB.all {b : BookS} {ss : List Str} (h : FoundB b ss) (c : closedB b ss) {k : Str} (m : Mk b k) : k ∈ ss := by
  induction m with
  | op k hk => exact h.op k hk
  | dn col hc hf _ ih => exact c col hc hf ih
theorem FoundB.len {b : BookS} {ss : List Str} (h : FoundB b ss) : ss.length ≤ b.kk.length := by
  have := List.Nodup.length_le_of_subset h.nd (l₂ := b.kk.map (·.1)) fun k hk => h.sub k hk
  simpa using this
def belowB (b : BookS) (ss : List Str) : List Str := ((b.cc.filter fun c => c.fall).filter fun c => decide (c.goal ∈ ss)).map (·.home)
def moreB (b : BookS) (ss : List Str) : List Str := ((b.kk.filter fun k => decide (k.1 ∈ belowB b ss) && !decide (k.1 ∈ ss))).map (·.1)
theorem FoundB.step {b : BookS} {ss : List Str} (h : FoundB b ss) (wf : WfB b.kk b.cc) : FoundB b (ss ++ moreB b ss) := by
  refine ⟨fun k hk => ?_, ?_, fun k hk => ?_, fun k hk => by simp [h.op k hk]⟩
  · rcases List.mem_append.mp hk with hk | hk
    · exact h.ok k hk
    · obtain ⟨p, hp, rfl⟩ := List.mem_map.mp hk
      have h2 := (List.mem_filter.mp hp).2
      simp only [Bool.and_eq_true, decide_eq_true_eq] at h2
      obtain ⟨c, hc, e⟩ := List.mem_map.mp h2.1
      simp only [List.mem_filter, decide_eq_true_eq] at hc
      rw [← e]
      exact .dn c hc.1.1 hc.1.2 (h.ok _ hc.2)
  · refine List.nodup_append.mpr ⟨h.nd, ?_, fun a ha x hx e => ?_⟩
    · have := wf.kinds.nd
      exact (List.filter_sublist.map _).nodup this
    · obtain ⟨p, hp, rfl⟩ := List.mem_map.mp hx
      have h2 := (List.mem_filter.mp hp).2
      simp only [Bool.and_eq_true, Bool.not_eq_true', decide_eq_false_iff_not] at h2
      exact h2.2 (e ▸ ha)
  · rcases List.mem_append.mp hk with hk | hk
    · exact h.sub k hk
    · obtain ⟨p, hp, rfl⟩ := List.mem_map.mp hk
      exact List.mem_map.mpr ⟨p, (List.mem_filter.mp hp).1, rfl⟩
theorem closed_of {b : BookS} {ss : List Str} (wf : WfB b.kk b.cc) (h : moreB b ss = []) : closedB b (ss ++ moreB b ss) := by
  rw [h, List.append_nil]
  intro c hc hf hg
  apply Classical.byContradiction
  intro n
  obtain ⟨p, hp, e⟩ := List.mem_map.mp (wf.home c hc)
  have : p.1 ∈ moreB b ss := List.mem_map.mpr ⟨p, List.mem_filter.mpr ⟨hp, by
    have h1 : p.1 ∈ belowB b ss := List.mem_map.mpr ⟨c, by simp [hc, hf, hg], e.symm⟩
    simp only [h1, Bool.and_eq_true, Bool.not_eq_true', decide_eq_true_eq, decide_eq_false_iff_not, true_and]; rw [e]; exact n⟩, rfl⟩
  rw [h] at this
  cases this
noncomputable def R_Book_markable (K : PySem.W.Frag) : RS := pureR (α := BookS) (fun b ds => ds = [dBook K b] ∧ WfB b.kk b.cc) (fun b => .lst ((markable b).map dS))
abbrev N_Book_markable : List Str := ["self", "found", "more", "falling", "below", "kind", "column"]
theorem sc_Book_markable : FnScope N_Book_markable ["self"] (defScope (inClass (top 23) 6)) := ⟨rfl, rfl, rfl, by decide +kernel, rfl, by decide +kernel, by decide +kernel⟩
theorem ok_Book_markable {f : Addr} {fd : FuncData} (T : Txt K mg)  (F : FunD K "markable" "Book.markable" (defArgs (inClass (top 23) 6)) (defBody (inClass (top 23) 6)) (defScope (inClass (top 23) 6)) [] [] f fd) : FnOk P w K mg base CX0 1 f fd ["self"] (spR (R_Book_markable K)) := by
  refine okW F sc_Book_markable (by rintro ds g Q ⟨_, x, ⟨rfl, _⟩, _⟩; rfl) fun cdv A outer s H E hr => ⟨_, PSs.nox (pss_cons (ps_set (i := 1) sc_Book_markable.nd rfl (by first | exact Or.inl rfl | exact Or.inr rfl) (pe_lc (own := [("kind", 5)]) rfl sc_Book_markable.nd (k_any (K := K) rfl (k_fld (K := K) rfl (pv 0))) (blkOk_by (own := [("kind", 5)]) (N := N_Book_markable) (sc := defScope (inClass (top 23) 6)) (by decide +kernel)) (fun _ _ _ _ _ => (pg_name (i := 5) sc_Book_markable.nd rfl (by first | exact Or.inl rfl | exact Or.inr rfl))) (fun _ _ _ _ _ => (pts_one (pt_val (pe_ix (k_ix (K := K) rfl (hu_of hr)) (k_fld (K := K) rfl (pv 0)) (pv 5) (fun _ _ => rfl))))) (fun _ _ _ _ _ => (pv 5))))
      (pss_cons (ps_set (i := 2) sc_Book_markable.nd rfl (by first | exact Or.inl rfl | exact Or.inr rfl) (pv 1))
      (pss_cons (ps_while PassesOwn.never (pt_cmpR op_gt (pe_callB (k_len (K := K) rfl) (by rfl) T.f_len (by decide +kernel) (pa_cons (pv 2) pa_nil)) pe_int (nomark _)) (pss_cons (ps_setLc (i := 3) (own := [("column", 6)]) rfl sc_Book_markable.nd rfl rfl (sw_true rfl rfl rfl (by decide +kernel)) (pi_values (k_fld (K := K) rfl (pv 0))) (blkOk_by (own := [("column", 6)]) (N := N_Book_markable) (sc := defScope (inClass (top 23) 6)) (by decide +kernel)) (fun _ _ _ _ _ => (pg_name (i := 6) sc_Book_markable.nd rfl (by first | exact Or.inl rfl | exact Or.inr rfl))) (fun _ _ _ _ _ => (pts_one (pt_cmpR (k_eq (K := K) rfl hr.units) (k_fld (K := K) rfl (pv 6)) (pe_glob (v := .str "fall") rfl T.s_FALL.choose_spec ⟨_, rfl⟩) (nomark _)))) (fun _ _ _ _ _ => (pv 6)))
      (pss_cons (ps_set (i := 4) sc_Book_markable.nd rfl (by first | exact Or.inl rfl | exact Or.inr rfl) (pe_lc (own := [("column", 6)]) rfl sc_Book_markable.nd (k_any (K := K) rfl (pv 3)) (blkOk_by (own := [("column", 6)]) (N := N_Book_markable) (sc := defScope (inClass (top 23) 6)) (by decide +kernel)) (fun _ _ _ _ _ => (pg_name (i := 6) sc_Book_markable.nd rfl (by first | exact Or.inl rfl | exact Or.inr rfl))) (fun _ _ _ _ _ => (pts_one (pt_cmpR (k_in (K := K) rfl (hu_of hr)) (k_fld (K := K) rfl (pv 6)) (pv 1) (by rfl)))) (fun _ _ _ _ _ => (k_fld (K := K) rfl (pv 6)))))
      (pss_cons (ps_setLc (i := 2) (own := [("kind", 5)]) rfl sc_Book_markable.nd rfl rfl (sw_true rfl rfl rfl (by decide +kernel)) (k_any (K := K) rfl (k_fld (K := K) rfl (pv 0))) (blkOk_by (own := [("kind", 5)]) (N := N_Book_markable) (sc := defScope (inClass (top 23) 6)) (by decide +kernel)) (fun _ _ _ _ _ => (pg_name (i := 5) sc_Book_markable.nd rfl (by first | exact Or.inl rfl | exact Or.inr rfl))) (fun _ _ _ _ _ => (pts_one (PW.pt (pw_and (pt_cmpR (k_in (K := K) rfl (hu_of hr)) (pv 5) (pv 4) (by rfl)) (pw_and1 (pt_cmpR (k_nin (K := K) rfl (hu_of hr)) (pv 5) (pv 1) (by rfl))))))) (fun _ _ _ _ _ => (pv 5)))
      (pss_one (ps_set (i := 1) sc_Book_markable.nd rfl (by first | exact Or.inl rfl | exact Or.inr rfl) (pe_op op_addA (pv 1) (pv 2))))))))
      (pss_one (ps_ret (pe_lc (own := [("kind", 5)]) rfl sc_Book_markable.nd (k_any (K := K) rfl (k_fld (K := K) rfl (pv 0))) (blkOk_by (own := [("kind", 5)]) (N := N_Book_markable) (sc := defScope (inClass (top 23) 6)) (by decide +kernel)) (fun _ _ _ _ _ => (pg_name (i := 5) sc_Book_markable.nd rfl (by first | exact Or.inl rfl | exact Or.inr rfl))) (fun _ _ _ _ _ => (pts_one (pt_cmpR (k_in (K := K) rfl (hu_of hr)) (pv 5) (pv 1) (by rfl)))) (fun _ _ _ _ _ => (pv 5)))))))), ?_⟩
  rintro ds g Q ⟨rfl, b, ⟨rfl, wf⟩, hQ⟩
  try dsimp only
  have hfew := wf.names.few
  rw [List.length_append, List.length_map, List.length_map] at hfew
  walk_at "go"
  refine lc_fn (α := Str × Bool) (fun k => k.2) (fun k => dS k.1) (yi_any ?_)
  walk_at "go"
  refine ⟨_, _, .keys _ _, fun c hc => by simp at hc, b.kk, fun k => dS k.1, by rw [List.map_map]; rfl, by omega, fun k hk => wgc_name (by simp) ?_, ?_⟩
  · walk_at "go"
    refine ixA_D (.im _ _) (dlk_map (r := fun k => dB k.2) (inr_nodup wf.kinds.nd) hk) ?_
    walk_at "go"
    refine ⟨rfl, fun _ => ?_, fun _ => rfl⟩
    walk_at "go"
    exact ⟨rfl, rfl⟩
  walk_at "go"
  refine ws_while (fun m e gg => gg = [] ∧ ∃ ss mo x3 x4 x5 x6, e = [some (dBook K b), some (.lst (ss.map dS)), some (.lst (mo.map dS)), x3, x4, x5, x6] ∧ FoundB b ss ∧ mo.length ≤ b.kk.length ∧ (mo = [] → closedB b ss) ∧ m = 2 * (b.kk.length - ss.length) + if mo = [] then 0 else 1) _ ⟨rfl, ((b.kk.filter fun k => k.2).map (·.1)), _, none, none, none, none, by rw [List.map_map]; rfl, ?_, ?_, ?_, rfl⟩ ?_
  · refine ⟨fun k hk => ?_, (List.filter_sublist.map _).nodup wf.kinds.nd, fun k hk => ?_, fun k hk => List.mem_map.mpr ⟨_, List.mem_filter.mpr ⟨hk, rfl⟩, rfl⟩⟩
    · obtain ⟨p, hp, rfl⟩ := List.mem_map.mp hk
      obtain ⟨h1, h2⟩ := List.mem_filter.mp hp
      exact .op _ (by rw [← h2]; exact h1)
    · obtain ⟨p, hp, rfl⟩ := List.mem_map.mp hk
      exact List.mem_map.mpr ⟨p, (List.mem_filter.mp hp).1, rfl⟩
  · rw [List.length_map]; exact List.length_filter_le _ _
  · intro e c hc hf hg
    rw [e] at hg; cases hg
  rintro m e gg ⟨rfl, ss, mo, x3, x4, x5, x6, rfl, fb, hml, hcl, rfl⟩
  walk_at "go"
  refine rc_len (.l _ _ (.im _)) ?_
  walk_at "go"
  refine ite2 (fun hc => ?_) (fun hc => ?_)
  · walk_at "go"
    refine lc_fn (α := Col) (fun c => c.fall) (dCol K) (yi_values ?_)
    walk_at "go"
    refine ⟨_, _, rfl, fun c hc => by simp at hc, b.cc, dCol K, rfl, by omega, fun c hc => wgc_name (by simp) ?_, ?_⟩
    · walk_at "go"
      refine ⟨by unfold Col.rule; cases c.fall <;> decide +kernel, fun _ => ?_, fun _ => rfl⟩
      walk_at "go"
      exact ⟨rfl, rfl⟩
    walk_at "go"
    refine lc_fn (α := Col) (fun c => decide (c.goal ∈ ss)) (fun c => dS c.home) (yi_any ?_)
    walk_at "go"
    refine ⟨_, _, .lst _, fun c hc => by simp at hc, b.cc.filter fun c => c.fall, dCol K, rfl, Nat.lt_of_le_of_lt (List.length_filter_le _ _) (by omega), fun c hc => wgc_name (by simp) ?_, ?_⟩
    · walk_at "go"
      refine inA_L (neg := false) (.l _ _ (.im _)) rfl ?_
      walk_at "go"
      refine ⟨rfl, fun _ => ?_, fun _ => rfl⟩
      walk_at "go"
      exact ⟨rfl, rfl⟩
    walk_at "go"
    refine lc_fn (α := Str × Bool) (fun k => decide (k.1 ∈ belowB b ss) && !decide (k.1 ∈ ss)) (fun k => dS k.1) (yi_any ?_)
    walk_at "go"
    refine ⟨_, _, .keys _ _, fun c hc => by simp at hc, b.kk, fun k => dS k.1, by rw [List.map_map]; rfl, by omega, fun k hk => wgc_name (by simp) ?_, ?_⟩
    · walk_at "go"
      refine inA_L (neg := false) (ss := belowB b ss) (.l _ _ (.im _)) (by unfold belowB; rw [List.map_map]; rfl) ?_
      walk_at "go"
      refine ite2 (fun h1 => ?_) (fun h1 => ?_)
      · walk_at "go"
        refine inA_L (neg := true) (.l _ _ (.im _)) rfl ?_
        walk_at "go"
        refine ⟨by rw [show decide (k.1 ∈ belowB b ss) = true from h1]; rfl, fun _ => ?_, fun _ => rfl⟩
        walk_at "go"
        exact ⟨rfl, rfl⟩
      · walk_at "go"
        refine ⟨by rw [decide_eq_false (fun z => h1 (decide_eq_true z))]; rfl, fun z => (by cases z), fun _ => rfl⟩
    walk_at "go"
    have hlen := fb.len
    have e1 : (b.kk.filter fun k => decide (k.1 ∈ belowB b ss) && !decide (k.1 ∈ ss)).map (fun k => dS k.1) = (moreB b ss).map dS := by unfold moreB; rw [List.map_map]; rfl
    have hml2 : (moreB b ss).length ≤ b.kk.length := by unfold moreB; rw [List.length_map]; exact List.length_filter_le _ _
    rw [e1]
    refine addA_L (.im _) (.im _) (by rw [List.length_map, List.length_map]; omega) ?_
    have fb2 := fb.step wf
    have hne : mo ≠ [] := by
      intro z
      rw [z] at hc; cases hc
    have hl2 := fb2.len
    rw [List.length_append] at hl2
    rw [← List.map_append]
    refine ⟨_, ?_, rfl, ss ++ moreB b ss, moreB b ss, _, _, _, _, rfl, fb2, hml2, fun z => closed_of wf z, rfl⟩
    rw [if_neg hne, List.length_append]
    by_cases z : moreB b ss = []
    · rw [if_pos z, z]; simp
    · rw [if_neg z]
      have : 0 < (moreB b ss).length := List.length_pos_iff.mpr z
      omega
  · have z : mo = [] := by
      apply Classical.byContradiction
      intro z
      have : 0 < mo.length := List.length_pos_iff.mpr z
      refine hc (decide_eq_true ?_)
      rw [List.length_map]; omega
    have cl := hcl z
    walk_at "go"
    refine lc_fn (α := Str × Bool) (fun k => decide (k.1 ∈ ss)) (fun k => dS k.1) (yi_any ?_)
    walk_at "go"
    refine ⟨_, _, .keys _ _, fun c hc => by simp at hc, b.kk, fun k => dS k.1, by rw [List.map_map]; rfl, by omega, fun k hk => wgc_name (by simp) ?_, ?_⟩
    · walk_at "go"
      refine inA_L (neg := false) (.l _ _ (.im _)) rfl ?_
      walk_at "go"
      refine ⟨rfl, fun _ => ?_, fun _ => rfl⟩
      walk_at "go"
      exact ⟨rfl, rfl⟩
    · have e2 : (b.kk.filter fun k => decide (k.1 ∈ ss)).map (fun k => dS k.1) = (markable b).map dS := by
        unfold markable
        rw [List.filter_map, List.map_map]
        refine congrArg (List.map _) (List.filter_congr fun k hk => ?_)
        show decide (k.1 ∈ ss) = @decide (Mk b k.1) (Classical.propDecidable _)
        by_cases h : k.1 ∈ ss
        · rw [decide_eq_true h]; exact (@decide_eq_true _ (Classical.propDecidable _) (fb.ok _ h)).symm
        · rw [decide_eq_false h]; exact (@decide_eq_false _ (Classical.propDecidable _) fun z => h (fb.all cl z)).symm
      rw [e2]
      exact hQ
end
end Ls
set_option Elab.async false
set_option linter.all false
set_option maxRecDepth 100000
set_option maxHeartbeats 4000000
set_option autoImplicit false
namespace Ls
open PySem PySem.Spec PyProof.Rows L2 Dl
local macro_rules | `(tactic| walk_at "nof") => `(tactic| first
  | with_reducible exact Txt.n_Column_word (by assumption)
  | with_reducible exact Txt.n_Column_home (by assumption)
  | with_reducible exact Txt.n_Column_goal (by assumption)
  | with_reducible exact Txt.n_Column_rule (by assumption)
  | with_reducible exact Txt.n_Book_open_kinds (by assumption)
  | with_reducible exact Txt.n_Book_column_rows (by assumption)
  | with_reducible exact Txt.n_Book_column_table (by assumption)
  | with_reducible exact Txt.n_Book_all_checks (by assumption)
  | with_reducible exact Txt.n_Book_own_checks (by assumption)
  | with_reducible exact Txt.n_Watch_law_book (by assumption)
  | with_reducible exact Txt.n_Watch_home (by assumption)
  | with_reducible exact Txt.n_Watch_can_mark (by assumption)
  | with_reducible exact Txt.n_Watch_sorts (by assumption)
  | with_reducible exact Txt.n_KindWatch_law_book (by assumption)
  | with_reducible exact Txt.n_KindWatch_home (by assumption)
  | with_reducible exact Txt.n_KindWatch_can_mark (by assumption)
  | with_reducible exact Txt.n_KindWatch_sorts (by assumption)
  | with_reducible exact Txt.n_ColumnWatch_law_book (by assumption)
  | with_reducible exact Txt.n_ColumnWatch_home (by assumption)
  | with_reducible exact Txt.n_ColumnWatch_can_mark (by assumption)
  | with_reducible exact Txt.n_ColumnWatch_sorts (by assumption)
  | with_reducible exact Txt.n_ColumnWatch_by (by assumption)
  | with_reducible exact Txt.n_ColumnWatch_goal (by assumption)
  | with_reducible exact Txt.n_ColumnWatch_other_column (by assumption)
  | with_reducible exact Txt.n_Weaver_watch (by assumption)
  | with_reducible exact Txt.n_Weaver_way (by assumption)
  | with_reducible exact Txt.n_Weaver_made (by assumption)
  | with_reducible exact Txt.n_Weaver_held (by assumption)
  | with_reducible exact Txt.n_Weaver_chains (by assumption)
  | with_reducible exact Txt.n_Weaver_unused (by assumption))
local macro_rules | `(tactic| walk_at "cls") => `(tactic| first
  | with_reducible exact Txt.cl_Column (by assumption)
  | with_reducible exact Txt.cl_Book (by assumption)
  | with_reducible exact Txt.cl_Watch (by assumption)
  | with_reducible exact Txt.cl_KindWatch (by assumption)
  | with_reducible exact Txt.cl_ColumnWatch (by assumption)
  | with_reducible exact Txt.cl_Weaver (by assumption))
local macro_rules | `(tactic| walk_at "dlf") => `(tactic| first
  | with_reducible exact dlf_Column_word ..
  | with_reducible exact dlf_Column_home ..
  | with_reducible exact dlf_Column_goal ..
  | with_reducible exact dlf_Column_rule ..
  | with_reducible exact dlf_Book_open_kinds ..
  | with_reducible exact dlf_Book_column_rows ..
  | with_reducible exact dlf_Book_column_table ..
  | with_reducible exact dlf_Book_all_checks ..
  | with_reducible exact dlf_Book_own_checks ..
  | with_reducible exact dlf_Watch_law_book ..
  | with_reducible exact dlf_Watch_home ..
  | with_reducible exact dlf_Watch_can_mark ..
  | with_reducible exact dlf_Watch_sorts ..
  | with_reducible exact dlf_KindWatch_law_book ..
  | with_reducible exact dlf_KindWatch_home ..
  | with_reducible exact dlf_KindWatch_can_mark ..
  | with_reducible exact dlf_KindWatch_sorts ..
  | with_reducible exact dlf_ColumnWatch_law_book ..
  | with_reducible exact dlf_ColumnWatch_home ..
  | with_reducible exact dlf_ColumnWatch_can_mark ..
  | with_reducible exact dlf_ColumnWatch_sorts ..
  | with_reducible exact dlf_ColumnWatch_by ..
  | with_reducible exact dlf_ColumnWatch_goal ..
  | with_reducible exact dlf_ColumnWatch_other_column ..
  | with_reducible exact dlf_Weaver_watch ..
  | with_reducible exact dlf_Weaver_way ..
  | with_reducible exact dlf_Weaver_made ..
  | with_reducible exact dlf_Weaver_held ..
  | with_reducible exact dlf_Weaver_chains ..
  | with_reducible exact dlf_Weaver_unused ..)
local macro_rules | `(tactic| walk_at "len") => `(tactic| first | decide | (simp; done) | omega | (simp; omega) | (simp only [PySem.Str.length_append, sizeLine_eq, len_empty, len_space]; omega))
local macro_rules | `(tactic| walk_at "go1") => `(tactic| first
  | with_reducible refine ws_seq ?_
  | with_reducible refine ws_set ?_
  | with_reducible refine ws_ret ?_
  | with_reducible refine ws_if ?_
  | with_reducible refine ws_drop ?_
  | with_reducible refine ws_next ?_
  | with_reducible refine ws_retN ?_
  | with_reducible refine ws_cont ?_
  | with_reducible refine ws_brk ?_
  | with_reducible refine ws_asg ?_
  | with_reducible refine ye_var (by with_unfolding_all rfl) ?_
  | with_reducible refine ye_c ?_
  | with_reducible refine ye_op ?_
  | with_reducible refine ye_cb ?_
  | with_reducible refine ye_bm ?_
  | with_reducible refine ye_m1 ?_
  | with_reducible refine ye_if ?_
  | with_reducible refine ye_andV ?_
  | with_reducible refine ye_orV ?_
  | with_reducible refine ye_notV ?_
  | with_reducible refine ye_join ?_
  | with_reducible refine ye_fmt ?_
  | with_reducible refine ye_fld ?_
  | with_reducible refine ye_items ?_
  | with_reducible refine ye_sl ?_
  | with_reducible refine ye_tup ?_
  | with_reducible refine yo_none ?_
  | with_reducible refine yo_some ?_
  | with_reducible refine yt_B ?_
  | with_reducible refine yt_test ?_
  | with_reducible refine yt_and ?_
  | with_reducible refine yt_or ?_
  | with_reducible refine yt_not ?_
  | with_reducible refine yt_yes ?_
  | with_reducible refine ya_nil ?_
  | with_reducible refine ya_cons ?_
  | with_reducible refine ya_starA ?_
  | with_reducible refine yj_nil ?_
  | with_reducible refine yj_cons ?_
  | with_reducible refine wg_name ?_
  | with_reducible refine eqA_S ?_
  | with_reducible refine neA_S ?_
  | with_reducible refine eqA_I ?_
  | with_reducible refine neA_I ?_
  | with_reducible refine addA_I ?_
  | with_reducible refine rd_I0 ?_
  | with_reducible refine isi_SS ?_
  | with_reducible refine rc_strS ?_
  | with_reducible refine rd_isN ?_
  | with_reducible refine rd_notN ?_
  | with_reducible refine chain_I ?_
  | with_reducible refine rc_lenS (by walk_at "len") ?_
  | with_reducible refine inA_S ?_
  | with_reducible refine ws_fld1 (by with_unfolding_all rfl) (by walk_at "cls") (by walk_at "nof") (by decide +kernel) (by decide +kernel) ?_
  | with_reducible refine ⟨_, _, _, _, OV.im _ _ _, by walk_at "cls", by walk_at "nof", by walk_at "dlf", ?_⟩
  | with_reducible refine ⟨_, _, _, _, OV.mu _ _ _ _ (List.mem_singleton.mpr rfl), by walk_at "cls", by walk_at "nof", by with_unfolding_all rfl, ?_⟩
  | with_reducible refine ⟨(rfl : ([_] : G) = _), ?_⟩
  | with_reducible refine ⟨_, _, _, rfl, rfl, rfl, ?_⟩
  | refine iteT ?_
  | refine iteF ?_
  | with_reducible refine ⟨_, rfl, ?_⟩
  | with_reducible refine ⟨(by walk_at "len" : List.length _ ≤ _), ?_⟩
  | with_reducible refine ⟨(by walk_at "len" : PySem.Str.length _ ≤ _), ?_⟩)
local macro_rules | `(tactic| walk_at "go") => `(tactic| repeat walk_at "go1")
local macro_rules | `(tactic| walk_at "end") => `(tactic| first | rfl | exact ⟨rfl, rfl⟩ | exact ⟨_, rfl, rfl⟩ | exact ⟨_, _, rfl, rfl⟩)
local macro_rules | `(tactic| walk_at "auto1") => `(tactic| first | walk_at "go1" | walk_at "own" | refine iteT' (by decide +kernel) ?_ | refine iteF' (by decide +kernel) ?_ | refine iteB (fun h => ?_) (fun h => ?_))
local macro_rules | `(tactic| walk_at "auto") => `(tactic| repeat' walk_at "auto1")
section
variable {P : Program} {w : World} {K : PySem.W.Frag} {mg : Str → Option Value} {base : Heap}
/-! ### likeness -/
theorem isName_ok {s : Str} (h : isName s = true) : PyData.strOk s = true := by
  refine strOk_of fun c hc => ?_
  unfold isName at h
  simp only [Bool.and_eq_true, List.all_eq_true, decide_eq_true_eq] at h
  exact (by decide +kernel : ∀ c ∈ letters.cps.toList, c < 0x110000) c (h.2 c hc)
theorem rule_ok (c : Col) : PyData.strOk c.rule = true := by unfold Col.rule; cases c.fall <;> decide +kernel
theorem rule_eq (c d : Col) : decide (c.rule = d.rule) = decide (c.fall = d.fall) := by unfold Col.rule; cases c.fall <;> cases d.fall <;> decide +kernel
theorem WfB.row_ok {kk : List (Str × Bool)} {cc : List Col} (w : WfB kk cc) : isPys 59 (cc.map dRow) = true := by
  refine isPys_map fun c hc => ?_
  have h1 : isName c.word = true := w.names.ok _ (by simp only [List.mem_append, List.mem_map]; exact .inr ⟨c, hc, rfl⟩)
  have h2 : isName c.home = true := w.names.ok _ (by simp only [List.mem_append]; exact .inl (w.home c hc))
  have h3 : isName c.goal = true := w.names.ok _ (by simp only [List.mem_append]; exact .inl (w.goal c hc))
  simp only [dRow, isPy, isPys, isName_ok h1, isName_ok h2, isName_ok h3, rule_ok, Bool.and_self]
theorem WfB.kind_ok {kk : List (Str × Bool)} {cc : List Col} (w : WfB kk cc) : isPys 59 (kk.map fun k => .tup [dS k.1, dB k.2]) = true := by
  refine isPys_map fun k hk => ?_
  have h1 : isName k.1 = true := w.names.ok _ (by simp only [List.mem_append, List.mem_map]; exact .inl ⟨k, hk, rfl⟩)
  simp only [isPy, isPys, isName_ok h1, Bool.and_self]
theorem eqv_rows {c1 c2 : List Col} : PyData.eqvAll (pyOfs (c1.map dRow)) (pyOfs (c2.map dRow)) = decide (c1 = c2) := by
  rw [pyOfs_map, pyOfs_map]
  refine eqvAll_map fun a b => ?_
  simp only [dRow, pyOf, pyOfs, PyData.eqv, PyData.eqvAll, beq_dec, rule_eq, Bool.and_true]
  obtain ⟨a1, a2, a3, a4⟩ := a
  obtain ⟨b1, b2, b3, b4⟩ := b
  simp only [Col.mk.injEq, Bool.decide_and]
theorem eqv_kinds {k1 k2 : List (Str × Bool)} : PyData.eqvAll (pyOfs (k1.map fun k => .tup [dS k.1, dB k.2])) (pyOfs (k2.map fun k => .tup [dS k.1, dB k.2])) = decide (k1 = k2) := by
  rw [pyOfs_map, pyOfs_map]
  refine eqvAll_map fun a b => ?_
  obtain ⟨a1, a2⟩ := a
  obtain ⟨b1, b2⟩ := b
  simp only [pyOf, pyOfs, PyData.eqv, PyData.eqvAll, beq_dec, Bool.and_true, Prod.mk.injEq, Bool.decide_and]
def likeB (a b : BookS) : Bool := decide (a.kk = b.kk) && decide (a.cc = b.cc)
def R_are_like (K : PySem.W.Frag) : RS := pureR (α := BookS × BookS) (fun x ds => ds = [dBook K x.1, dBook K x.2] ∧ WfB x.1.kk x.1.cc ∧ WfB x.2.kk x.2.cc) (fun x => dB (likeB x.1 x.2))
abbrev N_are_like : List Str := ["one", "other"]
theorem sc_are_like : FnScope N_are_like ["one", "other"] (defScope (top 24)) := ⟨rfl, rfl, rfl, by decide +kernel, rfl, by decide +kernel, by decide +kernel⟩
theorem ok_are_like {f : Addr} {fd : FuncData} (T : Txt K mg)  (F : FunD K "are_like" "are_like" (defArgs (top 24)) (defBody (top 24)) (defScope (top 24)) [] [] f fd) : FnOk P w K mg base CX0 1 f fd ["one", "other"] (spR (R_are_like K)) := by
  refine okW F sc_are_like (by rintro ds g Q ⟨_, x, ⟨rfl, _⟩, _⟩; rfl) fun cdv A outer s H E hr => ⟨_, PSs.nox (pss_cons (ps_if (pt_cmpR (k_ne (K := K) rfl hr.units) (pe_listItemsF rfl (k_fld (K := K) rfl (pv 0)) (by rfl) T.f_list boot_list) (pe_listItemsF rfl (k_fld (K := K) rfl (pv 1)) (by rfl) T.f_list boot_list) (nomark _)) (pss_one (ps_ret pe_bl)) pss_nil)
      (pss_one (ps_ret (pe_cmpR (k_eq (K := K) rfl hr.units) (k_fld (K := K) rfl (pv 0)) (k_fld (K := K) rfl (pv 1)) (nomark _))))), ?_⟩
  rintro ds g Q ⟨rfl, ⟨a, b⟩, ⟨rfl, wa, wb⟩, hQ⟩
  replace wa : WfB a.kk a.cc := wa
  replace wb : WfB b.kk b.cc := wb
  replace hQ : Q (dB (likeB a b)) [] := hQ
  dsimp only
  walk_at "go"
  refine ⟨_, _, rfl, ?_⟩
  walk_at "go"
  refine ⟨_, _, rfl, ?_⟩
  rw [itemsD_map, itemsD_map]
  refine neA_C (.im _) (.im _) wa.kind_ok wb.kind_ok ?_
  have e1 : PyData.eqvAll (pyOfs (a.kk.map fun k => .tup [.v (kV (Sum.inr k.1)), dB k.2])) (pyOfs (b.kk.map fun k => .tup [.v (kV (Sum.inr k.1)), dB k.2])) = decide (a.kk = b.kk) := eqv_kinds
  rw [e1]
  by_cases h : a.kk = b.kk
  · rw [decide_eq_true h]
    walk_at "go"
    refine eqA_C (.im _) (.im _) wa.row_ok wb.row_ok ?_
    rw [eqv_rows]
    unfold likeB at hQ
    rw [decide_eq_true h, Bool.true_and] at hQ
    exact hQ
  · rw [decide_eq_false h]
    walk_at "go"
    unfold likeB at hQ
    rw [decide_eq_false h, Bool.false_and] at hQ
    exact hQ
def R_check_like (K : PySem.W.Frag) : RS := pureR (α := BookS × BookS) (fun x ds => ds = [dBook K x.1, dBook K x.2] ∧ WfB x.1.kk x.1.cc ∧ WfB x.2.kk x.2.cc ∧ likeB x.1 x.2 = true) (fun x => dN)
abbrev N_check_like : List Str := ["one", "other"]
theorem sc_check_like : FnScope N_check_like ["one", "other"] (defScope (top 25)) := ⟨rfl, rfl, rfl, by decide +kernel, rfl, by decide +kernel, by decide +kernel⟩
theorem ok_check_like {f : Addr} {fd : FuncData} (T : Txt K mg) (c_are_like : Cal P w K mg base CX0 1 "are_like" ["one", "other"] (spR (R_are_like K))) (F : FunD K "check_like" "check_like" (defArgs (top 25)) (defBody (top 25)) (defScope (top 25)) [] [] f fd) : FnOk P w K mg base CX0 2 f fd ["one", "other"] (spR (R_check_like K)) := by
  refine okW F sc_check_like (by rintro ds g Q ⟨_, x, ⟨rfl, _⟩, _⟩; rfl) fun cdv A outer s H E hr => ⟨_, PSs.nox (pss_one (ps_if (pt_not (pt_val (pe_cal c_are_like (hr.mono (by decide)) rfl pass0 (pa_cons (pv 0) (pa_cons (pv 1) pa_nil))))) (pss_one ps_never) pss_nil)), ?_⟩
  rintro ds g Q ⟨rfl, ⟨a, b⟩, ⟨rfl, wa, wb, h⟩, hQ⟩
  replace wa : WfB a.kk a.cc := wa
  replace wb : WfB b.kk b.cc := wb
  replace h : likeB a b = true := h
  dsimp only
  walk_at "go"
  refine ye_callQ ?_
  walk_at "go"
  refine ⟨(a, b), ⟨rfl, wa, wb⟩, ?_⟩
  rw [h]
  walk_at "go"
  exact hQ
end
end Ls
set_option Elab.async false
set_option linter.all false
set_option maxRecDepth 100000
set_option maxHeartbeats 4000000
set_option autoImplicit false
namespace Ls
open PySem PySem.Spec PyProof.Rows L2 Dl
local macro_rules | `(tactic| walk_at "nof") => `(tactic| first
  | with_reducible exact Txt.n_Column_word (by assumption)
  | with_reducible exact Txt.n_Column_home (by assumption)
  | with_reducible exact Txt.n_Column_goal (by assumption)
  | with_reducible exact Txt.n_Column_rule (by assumption)
  | with_reducible exact Txt.n_Book_open_kinds (by assumption)
  | with_reducible exact Txt.n_Book_column_rows (by assumption)
  | with_reducible exact Txt.n_Book_column_table (by assumption)
  | with_reducible exact Txt.n_Book_all_checks (by assumption)
  | with_reducible exact Txt.n_Book_own_checks (by assumption)
  | with_reducible exact Txt.n_Watch_law_book (by assumption)
  | with_reducible exact Txt.n_Watch_home (by assumption)
  | with_reducible exact Txt.n_Watch_can_mark (by assumption)
  | with_reducible exact Txt.n_Watch_sorts (by assumption)
  | with_reducible exact Txt.n_KindWatch_law_book (by assumption)
  | with_reducible exact Txt.n_KindWatch_home (by assumption)
  | with_reducible exact Txt.n_KindWatch_can_mark (by assumption)
  | with_reducible exact Txt.n_KindWatch_sorts (by assumption)
  | with_reducible exact Txt.n_ColumnWatch_law_book (by assumption)
  | with_reducible exact Txt.n_ColumnWatch_home (by assumption)
  | with_reducible exact Txt.n_ColumnWatch_can_mark (by assumption)
  | with_reducible exact Txt.n_ColumnWatch_sorts (by assumption)
  | with_reducible exact Txt.n_ColumnWatch_by (by assumption)
  | with_reducible exact Txt.n_ColumnWatch_goal (by assumption)
  | with_reducible exact Txt.n_ColumnWatch_other_column (by assumption)
  | with_reducible exact Txt.n_Weaver_watch (by assumption)
  | with_reducible exact Txt.n_Weaver_way (by assumption)
  | with_reducible exact Txt.n_Weaver_made (by assumption)
  | with_reducible exact Txt.n_Weaver_held (by assumption)
  | with_reducible exact Txt.n_Weaver_chains (by assumption)
  | with_reducible exact Txt.n_Weaver_unused (by assumption))
local macro_rules | `(tactic| walk_at "cls") => `(tactic| first
  | with_reducible exact Txt.cl_Column (by assumption)
  | with_reducible exact Txt.cl_Book (by assumption)
  | with_reducible exact Txt.cl_Watch (by assumption)
  | with_reducible exact Txt.cl_KindWatch (by assumption)
  | with_reducible exact Txt.cl_ColumnWatch (by assumption)
  | with_reducible exact Txt.cl_Weaver (by assumption))
local macro_rules | `(tactic| walk_at "dlf") => `(tactic| first
  | with_reducible exact dlf_Column_word ..
  | with_reducible exact dlf_Column_home ..
  | with_reducible exact dlf_Column_goal ..
  | with_reducible exact dlf_Column_rule ..
  | with_reducible exact dlf_Book_open_kinds ..
  | with_reducible exact dlf_Book_column_rows ..
  | with_reducible exact dlf_Book_column_table ..
  | with_reducible exact dlf_Book_all_checks ..
  | with_reducible exact dlf_Book_own_checks ..
  | with_reducible exact dlf_Watch_law_book ..
  | with_reducible exact dlf_Watch_home ..
  | with_reducible exact dlf_Watch_can_mark ..
  | with_reducible exact dlf_Watch_sorts ..
  | with_reducible exact dlf_KindWatch_law_book ..
  | with_reducible exact dlf_KindWatch_home ..
  | with_reducible exact dlf_KindWatch_can_mark ..
  | with_reducible exact dlf_KindWatch_sorts ..
  | with_reducible exact dlf_ColumnWatch_law_book ..
  | with_reducible exact dlf_ColumnWatch_home ..
  | with_reducible exact dlf_ColumnWatch_can_mark ..
  | with_reducible exact dlf_ColumnWatch_sorts ..
  | with_reducible exact dlf_ColumnWatch_by ..
  | with_reducible exact dlf_ColumnWatch_goal ..
  | with_reducible exact dlf_ColumnWatch_other_column ..
  | with_reducible exact dlf_Weaver_watch ..
  | with_reducible exact dlf_Weaver_way ..
  | with_reducible exact dlf_Weaver_made ..
  | with_reducible exact dlf_Weaver_held ..
  | with_reducible exact dlf_Weaver_chains ..
  | with_reducible exact dlf_Weaver_unused ..)
local macro_rules | `(tactic| walk_at "len") => `(tactic| first | decide | (simp; done) | omega | (simp; omega) | (simp only [PySem.Str.length_append, sizeLine_eq, len_empty, len_space]; omega))
local macro_rules | `(tactic| walk_at "go1") => `(tactic| first
  | with_reducible refine ws_seq ?_
  | with_reducible refine ws_set ?_
  | with_reducible refine ws_ret ?_
  | with_reducible refine ws_if ?_
  | with_reducible refine ws_drop ?_
  | with_reducible refine ws_next ?_
  | with_reducible refine ws_retN ?_
  | with_reducible refine ws_cont ?_
  | with_reducible refine ws_brk ?_
  | with_reducible refine ws_asg ?_
  | with_reducible refine ye_var (by with_unfolding_all rfl) ?_
  | with_reducible refine ye_c ?_
  | with_reducible refine ye_op ?_
  | with_reducible refine ye_cb ?_
  | with_reducible refine ye_bm ?_
  | with_reducible refine ye_m1 ?_
  | with_reducible refine ye_if ?_
  | with_reducible refine ye_andV ?_
  | with_reducible refine ye_orV ?_
  | with_reducible refine ye_notV ?_
  | with_reducible refine ye_join ?_
  | with_reducible refine ye_fmt ?_
  | with_reducible refine ye_fld ?_
  | with_reducible refine ye_items ?_
  | with_reducible refine ye_sl ?_
  | with_reducible refine ye_tup ?_
  | with_reducible refine yo_none ?_
  | with_reducible refine yo_some ?_
  | with_reducible refine yt_B ?_
  | with_reducible refine yt_test ?_
  | with_reducible refine yt_and ?_
  | with_reducible refine yt_or ?_
  | with_reducible refine yt_not ?_
  | with_reducible refine yt_yes ?_
  | with_reducible refine ya_nil ?_
  | with_reducible refine ya_cons ?_
  | with_reducible refine ya_starA ?_
  | with_reducible refine yj_nil ?_
  | with_reducible refine yj_cons ?_
  | with_reducible refine wg_name ?_
  | with_reducible refine eqA_S ?_
  | with_reducible refine neA_S ?_
  | with_reducible refine eqA_I ?_
  | with_reducible refine neA_I ?_
  | with_reducible refine addA_I ?_
  | with_reducible refine rd_I0 ?_
  | with_reducible refine isi_SS ?_
  | with_reducible refine rc_strS ?_
  | with_reducible refine rd_isN ?_
  | with_reducible refine rd_notN ?_
  | with_reducible refine chain_I ?_
  | with_reducible refine rc_lenS (by walk_at "len") ?_
  | with_reducible refine inA_S ?_
  | with_reducible refine ws_fld1 (by with_unfolding_all rfl) (by walk_at "cls") (by walk_at "nof") (by decide +kernel) (by decide +kernel) ?_
  | with_reducible refine ⟨_, _, _, _, OV.im _ _ _, by walk_at "cls", by walk_at "nof", by walk_at "dlf", ?_⟩
  | with_reducible refine ⟨_, _, _, _, OV.mu _ _ _ _ (List.mem_singleton.mpr rfl), by walk_at "cls", by walk_at "nof", by with_unfolding_all rfl, ?_⟩
  | with_reducible refine ⟨(rfl : ([_] : G) = _), ?_⟩
  | with_reducible refine ⟨_, _, _, rfl, rfl, rfl, ?_⟩
  | refine iteT ?_
  | refine iteF ?_
  | with_reducible refine ⟨_, rfl, ?_⟩
  | with_reducible refine ⟨(by walk_at "len" : List.length _ ≤ _), ?_⟩
  | with_reducible refine ⟨(by walk_at "len" : PySem.Str.length _ ≤ _), ?_⟩)
local macro_rules | `(tactic| walk_at "go") => `(tactic| repeat walk_at "go1")
local macro_rules | `(tactic| walk_at "end") => `(tactic| first | rfl | exact ⟨rfl, rfl⟩ | exact ⟨_, rfl, rfl⟩ | exact ⟨_, _, rfl, rfl⟩)
local macro_rules | `(tactic| walk_at "auto1") => `(tactic| first | walk_at "go1" | walk_at "own" | refine iteT' (by decide +kernel) ?_ | refine iteF' (by decide +kernel) ?_ | refine iteB (fun h => ?_) (fun h => ?_))
local macro_rules | `(tactic| walk_at "auto") => `(tactic| repeat' walk_at "auto1")
section
variable {P : Program} {w : World} {K : PySem.W.Frag} {mg : Str → Option Value} {base : Heap}
/-! ### watches -/
inductive WatchS where
  | kind (b : BookS) (home : Str)
  | col (b : BookS) (c : Col)
def WatchS.b : WatchS → BookS
  | .kind b _ => b
  | .col b _ => b
def WatchS.home : WatchS → Str
  | .kind _ h => h
  | .col _ c => c.home
def WatchS.sorts : WatchS → Str
  | .kind _ _ => "X"
  | .col _ c => if c.fall then "SXY" else "CXY"
noncomputable def otherC (b : BookS) (c : Col) : Option Col := b.cc.find? fun d => decide (d.home = c.home) && d.fall && !decide (d.word = c.word) && decide (d.goal ∈ markable b)
abbrev dOpt (K : PySem.W.Frag) : Option Col → D
  | none => dN
  | some c => dCol K c
noncomputable abbrev dKW (K : PySem.W.Frag) (b : BookS) (home : Str) : D := .obj (He.ga K "KindWatch") fs_KindWatch [dBook K b, dS home, .lst ((markable b).map dS), dS "X"]
noncomputable abbrev dCW (K : PySem.W.Frag) (b : BookS) (c : Col) : D := .obj (He.ga K "ColumnWatch") fs_ColumnWatch [dBook K b, dS c.home, .lst ((markable b).map dS), dS (WatchS.sorts (.col b c)), dCol K c, dS c.goal, dOpt K (otherC b c)]
noncomputable def dWatch (K : PySem.W.Frag) : WatchS → D
  | .kind b h => dKW K b h
  | .col b c => dCW K b c
def listWords : List Str := ["look", "do", "stop"]
def rawsD (n : Nat) (z : Str) : List D := (pairsL listWords z).map fun p => .raw n p.1 p.2
theorem rawsD_len (n : Nat) (z : Str) : (rawsD n z).length = 3 * z.cps.size := by unfold rawsD; rw [List.length_map, pairsL_len]; rfl
noncomputable def pre_LL (K : PySem.W.Frag) (w : WatchS) (ds : List D) : Prop := ds = [dWatch K w]
def res_LL (w : WatchS) (n : Nat) : D := .lst (rawsD n w.sorts)
theorem sorts_ok (w : WatchS) : w.sorts.cps.all (· < 128) = true ∧ w.sorts.cps.size ≤ 100 := by
  cases w with
  | kind b h => exact (by decide +kernel : ("X" : Str).cps.all (· < 128) = true ∧ ("X" : Str).cps.size ≤ 100)
  | col b c =>
    show (if c.fall then ("SXY" : Str) else "CXY").cps.all (· < 128) = true ∧ (if c.fall then ("SXY" : Str) else "CXY").cps.size ≤ 100
    cases c.fall
    · exact (by decide +kernel : ("CXY" : Str).cps.all (· < 128) = true ∧ ("CXY" : Str).cps.size ≤ 100)
    · exact (by decide +kernel : ("SXY" : Str).cps.all (· < 128) = true ∧ ("SXY" : Str).cps.size ≤ 100)
abbrev N_Watch_list_labels : List Str := ["self", "word", "letter"]
theorem sc_Watch_list_labels : FnScope N_Watch_list_labels ["self"] (defScope (inClass (top 31) 6)) := ⟨rfl, rfl, rfl, by decide +kernel, rfl, by decide +kernel, by decide +kernel⟩
theorem ok_Watch_list_labels {f : Addr} {fd : FuncData} (T : Txt K mg)  (F : FunD K "list_labels" "Watch.list_labels" (defArgs (inClass (top 31) 6)) (defBody (inClass (top 31) 6)) (defScope (inClass (top 31) 6)) [] [] f fd) : FnRn P w K mg base 1 f fd ["self"] (spRn (pre_LL K) res_LL) := by
  refine okRd F sc_Watch_list_labels (by rintro x ds rfl; rfl) fun cdv A outer s H hr => ⟨_, PSsr.nox (pssr_ret (per_ll (own := [("word", 1), ("letter", 2)]) (iw := 1) (il := 2) rfl sc_Watch_list_labels.nd (k_any (K := K) rfl (pe_tup (pa_cons pe_str (pa_cons pe_str (pa_cons pe_str pa_nil))))) (blkOk_by (own := [("word", 1), ("letter", 2)]) (N := N_Watch_list_labels) (sc := defScope (inClass (top 31) 6)) (by decide +kernel)) (by rfl) (by rfl) (by simp) (by simp) (by decide) (by rfl) (by rfl) (fun _ _ _ _ _ => (k_fld (K := K) rfl (pv 0))))), ?_⟩
  rintro w ds rfl
  refine wsr_ret ?_
  cases w with
  | kind b h =>
    refine yr_ll (i0 := 0) (words := listWords) (z := "X") (C := He.ga K "KindWatch") (ns := fs_KindWatch) rfl (by decide) (by decide) T.cl_KindWatch T.n_KindWatch_sorts (dlf_KindWatch_sorts ..) (by decide +kernel) (by decide +kernel) (by decide) ?_ fun n => ⟨rfl, rfl⟩
    walk_at "go"
    exact ⟨rfl, rfl⟩
  | col b c =>
    refine yr_ll (i0 := 0) (words := listWords) (z := WatchS.sorts (.col b c)) (C := He.ga K "ColumnWatch") (ns := fs_ColumnWatch) rfl (by decide) (by decide) T.cl_ColumnWatch T.n_ColumnWatch_sorts (dlf_ColumnWatch_sorts ..) (sorts_ok (.col b c)).1 (sorts_ok (.col b c)).2 (by decide) ?_ fun n => ⟨rfl, rfl⟩
    walk_at "go"
    exact ⟨rfl, rfl⟩
noncomputable def pre_KL (K : PySem.W.Frag) (x : BookS × Str) (ds : List D) : Prop := ds = [dKW K x.1 x.2]
def labK (n : Nat) : List D := [.tup [dS "put", dS "x", dS "-"], .tup [dS "mark", dS "x"]] ++ rawsD n "X"
def res_KL (x : BookS × Str) (n : Nat) : D := .lst (labK n)
abbrev N_KindWatch_labels : List Str := ["self"]
theorem sc_KindWatch_labels : FnScope N_KindWatch_labels ["self"] (defScope (inClass (top 32) 1)) := ⟨rfl, rfl, rfl, by decide +kernel, rfl, by decide +kernel, by decide +kernel⟩
theorem ok_KindWatch_labels {f : Addr} {fd : FuncData} (T : Txt K mg) (c_KindWatch_list_labels : MetR P w K mg base 1 (He.ga K "KindWatch") "list_labels" ["self"] (spRn (pre_LL K) res_LL)) (F : FunD K "labels" "KindWatch.labels" (defArgs (inClass (top 32) 1)) (defBody (inClass (top 32) 1)) (defScope (inClass (top 32) 1)) [] [] f fd) : FnRn P w K mg base 2 f fd ["self"] (spRn (pre_KL K) res_KL) := by
  refine okRd F sc_KindWatch_labels (by rintro x ds rfl; rfl) fun cdv A outer s H hr => ⟨_, PSsr.nox (pssr_ret (per_lst (par_cons (pe_tup (pa_cons pe_str (pa_cons pe_str (pa_cons pe_str pa_nil)))) (par_cons (pe_tup (pa_cons pe_str (pa_cons pe_str pa_nil))) (par_last (K := K) rfl (per_met0 c_KindWatch_list_labels (hr.mono (by decide)) (pv 0))))))), ?_⟩
  rintro ⟨b, h⟩ ds rfl
  refine wsr_ret (yr_lst (yr_cons ?_))
  walk_at "go"
  refine yr_cons ?_
  walk_at "go"
  refine yr_last (yr_met0 ?_)
  walk_at "go"
  refine ⟨_, _, .kind b h, .im _ _ _, by decide +kernel, rfl, fun n => ?_⟩
  refine ⟨_, .l _ _ (.im _), ?_⟩
  refine ⟨?_, rfl, rfl⟩
  show 2 + (rawsD n "X").length ≤ 1000000
  have := rawsD_len n "X"
  have h2 : ("X" : Str).cps.size ≤ 100 := by decide +kernel
  omega
noncomputable def pre_CL (K : PySem.W.Frag) (x : BookS × Col) (ds : List D) : Prop := ds = [dCW K x.1 x.2]
def turnsD (i : Nat) : List D := ((["put", "turn"] : List Str).take i).flatMap fun w => (["-", "y", "z"] : List Str).map fun o => .tup [dS w, dS "x", dS o]
def labC (z : Str) (n : Nat) : List D := ([.tup [dS "put", dS "y", dS "-"], .tup [dS "put", dS "z", dS "-"]] ++ turnsD 2) ++ ([.tup [dS "mark", dS "y"], .tup [dS "strike", dS "x"], .tup [dS "mark", dS "x"]] ++ rawsD n z)
def res_CL (x : BookS × Col) (n : Nat) : D := .lst (labC (WatchS.sorts (.col x.1 x.2)) n)
abbrev N_ColumnWatch_labels : List Str := ["self", "found", "word", "owner"]
theorem sc_ColumnWatch_labels : FnScope N_ColumnWatch_labels ["self"] (defScope (inClass (top 33) 2)) := ⟨rfl, rfl, rfl, by decide +kernel, rfl, by decide +kernel, by decide +kernel⟩
theorem ok_ColumnWatch_labels {f : Addr} {fd : FuncData} (T : Txt K mg) (c_ColumnWatch_list_labels : MetR P w K mg base 1 (He.ga K "ColumnWatch") "list_labels" ["self"] (spRn (pre_LL K) res_LL)) (F : FunD K "labels" "ColumnWatch.labels" (defArgs (inClass (top 33) 2)) (defBody (inClass (top 33) 2)) (defScope (inClass (top 33) 2)) [] [] f fd) : FnRn P w K mg base 2 f fd ["self"] (spRn (pre_CL K) res_CL) := by
  refine okRd F sc_ColumnWatch_labels (by rintro x ds rfl; rfl) fun cdv A outer s H hr => ⟨_, PSsr.nox (pssr_cons (ps_set (i := 1) sc_ColumnWatch_labels.nd rfl (by first | exact Or.inl rfl | exact Or.inr rfl) (pe_lst (pa_cons (pe_tup (pa_cons pe_str (pa_cons pe_str (pa_cons pe_str pa_nil)))) (pa_cons (pe_tup (pa_cons pe_str (pa_cons pe_str (pa_cons pe_str pa_nil)))) pa_nil)))) (pssr_cons (ps_for PassesOwn.never rfl (k_any (K := K) rfl (pe_tup (pa_cons pe_str (pa_cons pe_str pa_nil)))) (pg_name (i := 2) sc_ColumnWatch_labels.nd rfl (by first | exact Or.inl rfl | exact Or.inr rfl)) (pss_one (ps_expr (k_bm (K := K) rfl PySem.F.plainAttrs_list PySem.F.slot_list_extend PySem.F.type_list_extend mt_extend (pv 1) (pa_cons (pe_lc (own := [("owner", 3)]) rfl sc_ColumnWatch_labels.nd (k_any (K := K) rfl (pe_tup (pa_cons pe_str (pa_cons pe_str (pa_cons pe_str pa_nil))))) (blkOk_by (own := [("owner", 3)]) (N := N_ColumnWatch_labels) (sc := defScope (inClass (top 33) 2)) (by decide +kernel)) (fun _ _ _ _ _ => (pg_name (i := 3) sc_ColumnWatch_labels.nd rfl (by first | exact Or.inl rfl | exact Or.inr rfl))) (fun _ _ _ _ _ => pts_nil) (fun _ _ _ _ _ => (pe_tup (pa_cons (pv 2) (pa_cons pe_str (pa_cons (pv 3) pa_nil)))))) pa_nil))))) (pssr_ret (per_lst (par_star (K := K) rfl (pv 1) (par_cons (pe_tup (pa_cons pe_str (pa_cons pe_str pa_nil))) (par_cons (pe_tup (pa_cons pe_str (pa_cons pe_str pa_nil))) (par_cons (pe_tup (pa_cons pe_str (pa_cons pe_str pa_nil))) (par_last (K := K) rfl (per_met0 c_ColumnWatch_list_labels (hr.mono (by decide)) (pv 0))))))))))), ?_⟩
  rintro ⟨b, c⟩ ds rfl
  refine wsr_cons ?_
  walk_at "go"
  refine ye_lstM ?_
  walk_at "go"
  intro a ha
  refine wsr_cons (ws_for (yi_any ?_))
  walk_at "go"
  refine ⟨_, _, .tup _, fun i e gg => ∃ x2 x3, e = [some (dCW K b c), some (.v (.ref a)), x2, x3] ∧ gg = [(a, MO.lst ([.tup [dS "put", dS "y", dS "-"], .tup [dS "put", dS "z", dS "-"]] ++ turnsD i))], ⟨none, none, rfl, rfl⟩, fun _ _ _ _ c hc => by simp at hc, ?_, ?_⟩
  · rintro i d e gg hd ⟨x2, x3, rfl, rfl⟩
    obtain ⟨w, hw, rfl⟩ := map_get (f := dS) (xs := ["put", "turn"]) hd
    walk_at "go"
    refine ⟨ty_list (.mu a _ (List.mem_singleton.mpr rfl)), ?_⟩
    walk_at "go"
    refine lc_map (α := Str) (fun o => .tup [dS w, dS "x", dS o]) (yi_any ?_)
    walk_at "go"
    refine ⟨_, _, .tup _, fun c hc => by simp at hc, ["-", "y", "z"], dS, rfl, by decide, fun o ho => wgc_name (by simp) ?_, ?_⟩
    · walk_at "go"
      walk_at "end"
    walk_at "go"
    have hi : i < 2 := (List.getElem?_eq_some_iff.mp hw).1
    refine rm_extend (List.mem_singleton.mpr rfl) (.im _) ?_ ?_
    · match i, hi with
      | 0, _ => simp [turnsD]
      | 1, _ => simp [turnsD]
    refine ⟨_, _, rfl, ?_⟩
    show setG [(a, _)] a _ = _
    rw [setG_one]
    match i, hi, hw with
    | 0, _, hw => cases hw; rfl
    | 1, _, hw => cases hw; rfl
  · rintro e gg ⟨x2, x3, rfl, rfl⟩
    refine wsr_ret (yr_sub (yr_lst (yr_star ?_)))
    walk_at "go"
    refine ⟨_, .l _ _ (.mu a _ (List.mem_singleton.mpr rfl)), yr_cons ?_⟩
    walk_at "go"
    refine yr_cons ?_
    walk_at "go"
    refine yr_cons ?_
    walk_at "go"
    refine yr_last (yr_met0 ?_)
    walk_at "go"
    refine ⟨_, _, .col b c, .im _ _ _, by decide +kernel, rfl, fun n => ?_⟩
    refine ⟨_, .l _ _ (.im _), ?_⟩
    refine ⟨?_, [], by simp, rfl, rfl⟩
    have h1 := rawsD_len n (WatchS.sorts (.col b c))
    have h2 := (sorts_ok (.col b c)).2
    show (([D.tup [dS "put", dS "y", dS "-"], .tup [dS "put", dS "z", dS "-"]] ++ turnsD 2) ++ (_ :: _ :: _ :: rawsD n (WatchS.sorts (.col b c)))).length ≤ 1000000
    have h3 : (turnsD 2).length = 6 := rfl
    simp only [List.length_append, List.length_cons, List.length_nil, h1, h3]
    omega
end
end Ls
set_option Elab.async false
set_option linter.all false
set_option maxRecDepth 100000
set_option maxHeartbeats 4000000
set_option autoImplicit false
namespace Ls
open PySem PySem.Spec PyProof.Rows L2 Dl
local macro_rules | `(tactic| walk_at "nof") => `(tactic| first
  | with_reducible exact Txt.n_Column_word (by assumption)
  | with_reducible exact Txt.n_Column_home (by assumption)
  | with_reducible exact Txt.n_Column_goal (by assumption)
  | with_reducible exact Txt.n_Column_rule (by assumption)
  | with_reducible exact Txt.n_Book_open_kinds (by assumption)
  | with_reducible exact Txt.n_Book_column_rows (by assumption)
  | with_reducible exact Txt.n_Book_column_table (by assumption)
  | with_reducible exact Txt.n_Book_all_checks (by assumption)
  | with_reducible exact Txt.n_Book_own_checks (by assumption)
  | with_reducible exact Txt.n_Watch_law_book (by assumption)
  | with_reducible exact Txt.n_Watch_home (by assumption)
  | with_reducible exact Txt.n_Watch_can_mark (by assumption)
  | with_reducible exact Txt.n_Watch_sorts (by assumption)
  | with_reducible exact Txt.n_KindWatch_law_book (by assumption)
  | with_reducible exact Txt.n_KindWatch_home (by assumption)
  | with_reducible exact Txt.n_KindWatch_can_mark (by assumption)
  | with_reducible exact Txt.n_KindWatch_sorts (by assumption)
  | with_reducible exact Txt.n_ColumnWatch_law_book (by assumption)
  | with_reducible exact Txt.n_ColumnWatch_home (by assumption)
  | with_reducible exact Txt.n_ColumnWatch_can_mark (by assumption)
  | with_reducible exact Txt.n_ColumnWatch_sorts (by assumption)
  | with_reducible exact Txt.n_ColumnWatch_by (by assumption)
  | with_reducible exact Txt.n_ColumnWatch_goal (by assumption)
  | with_reducible exact Txt.n_ColumnWatch_other_column (by assumption)
  | with_reducible exact Txt.n_Weaver_watch (by assumption)
  | with_reducible exact Txt.n_Weaver_way (by assumption)
  | with_reducible exact Txt.n_Weaver_made (by assumption)
  | with_reducible exact Txt.n_Weaver_held (by assumption)
  | with_reducible exact Txt.n_Weaver_chains (by assumption)
  | with_reducible exact Txt.n_Weaver_unused (by assumption))
local macro_rules | `(tactic| walk_at "cls") => `(tactic| first
  | with_reducible exact Txt.cl_Column (by assumption)
  | with_reducible exact Txt.cl_Book (by assumption)
  | with_reducible exact Txt.cl_Watch (by assumption)
  | with_reducible exact Txt.cl_KindWatch (by assumption)
  | with_reducible exact Txt.cl_ColumnWatch (by assumption)
  | with_reducible exact Txt.cl_Weaver (by assumption))
local macro_rules | `(tactic| walk_at "dlf") => `(tactic| first
  | with_reducible exact dlf_Column_word ..
  | with_reducible exact dlf_Column_home ..
  | with_reducible exact dlf_Column_goal ..
  | with_reducible exact dlf_Column_rule ..
  | with_reducible exact dlf_Book_open_kinds ..
  | with_reducible exact dlf_Book_column_rows ..
  | with_reducible exact dlf_Book_column_table ..
  | with_reducible exact dlf_Book_all_checks ..
  | with_reducible exact dlf_Book_own_checks ..
  | with_reducible exact dlf_Watch_law_book ..
  | with_reducible exact dlf_Watch_home ..
  | with_reducible exact dlf_Watch_can_mark ..
  | with_reducible exact dlf_Watch_sorts ..
  | with_reducible exact dlf_KindWatch_law_book ..
  | with_reducible exact dlf_KindWatch_home ..
  | with_reducible exact dlf_KindWatch_can_mark ..
  | with_reducible exact dlf_KindWatch_sorts ..
  | with_reducible exact dlf_ColumnWatch_law_book ..
  | with_reducible exact dlf_ColumnWatch_home ..
  | with_reducible exact dlf_ColumnWatch_can_mark ..
  | with_reducible exact dlf_ColumnWatch_sorts ..
  | with_reducible exact dlf_ColumnWatch_by ..
  | with_reducible exact dlf_ColumnWatch_goal ..
  | with_reducible exact dlf_ColumnWatch_other_column ..
  | with_reducible exact dlf_Weaver_watch ..
  | with_reducible exact dlf_Weaver_way ..
  | with_reducible exact dlf_Weaver_made ..
  | with_reducible exact dlf_Weaver_held ..
  | with_reducible exact dlf_Weaver_chains ..
  | with_reducible exact dlf_Weaver_unused ..)
local macro_rules | `(tactic| walk_at "len") => `(tactic| first | decide | (simp; done) | omega | (simp; omega) | (simp only [PySem.Str.length_append, sizeLine_eq, len_empty, len_space]; omega))
local macro_rules | `(tactic| walk_at "go1") => `(tactic| first
  | with_reducible refine ws_seq ?_
  | with_reducible refine ws_set ?_
  | with_reducible refine ws_ret ?_
  | with_reducible refine ws_if ?_
  | with_reducible refine ws_drop ?_
  | with_reducible refine ws_next ?_
  | with_reducible refine ws_retN ?_
  | with_reducible refine ws_cont ?_
  | with_reducible refine ws_brk ?_
  | with_reducible refine ws_asg ?_
  | with_reducible refine ye_var (by with_unfolding_all rfl) ?_
  | with_reducible refine ye_c ?_
  | with_reducible refine ye_op ?_
  | with_reducible refine ye_cb ?_
  | with_reducible refine ye_bm ?_
  | with_reducible refine ye_m1 ?_
  | with_reducible refine ye_if ?_
  | with_reducible refine ye_andV ?_
  | with_reducible refine ye_orV ?_
  | with_reducible refine ye_notV ?_
  | with_reducible refine ye_join ?_
  | with_reducible refine ye_fmt ?_
  | with_reducible refine ye_fld ?_
  | with_reducible refine ye_items ?_
  | with_reducible refine ye_sl ?_
  | with_reducible refine ye_tup ?_
  | with_reducible refine yo_none ?_
  | with_reducible refine yo_some ?_
  | with_reducible refine yt_B ?_
  | with_reducible refine yt_test ?_
  | with_reducible refine yt_and ?_
  | with_reducible refine yt_or ?_
  | with_reducible refine yt_not ?_
  | with_reducible refine yt_yes ?_
  | with_reducible refine ya_nil ?_
  | with_reducible refine ya_cons ?_
  | with_reducible refine ya_starA ?_
  | with_reducible refine yj_nil ?_
  | with_reducible refine yj_cons ?_
  | with_reducible refine wg_name ?_
  | with_reducible refine eqA_S ?_
  | with_reducible refine neA_S ?_
  | with_reducible refine eqA_I ?_
  | with_reducible refine neA_I ?_
  | with_reducible refine addA_I ?_
  | with_reducible refine rd_I0 ?_
  | with_reducible refine isi_SS ?_
  | with_reducible refine rc_strS ?_
  | with_reducible refine rd_isN ?_
  | with_reducible refine rd_notN ?_
  | with_reducible refine chain_I ?_
  | with_reducible refine rc_lenS (by walk_at "len") ?_
  | with_reducible refine inA_S ?_
  | with_reducible refine ws_fld1 (by with_unfolding_all rfl) (by walk_at "cls") (by walk_at "nof") (by decide +kernel) (by decide +kernel) ?_
  | with_reducible refine ⟨_, _, _, _, OV.im _ _ _, by walk_at "cls", by walk_at "nof", by walk_at "dlf", ?_⟩
  | with_reducible refine ⟨_, _, _, _, OV.mu _ _ _ _ (List.mem_singleton.mpr rfl), by walk_at "cls", by walk_at "nof", by with_unfolding_all rfl, ?_⟩
  | with_reducible refine ⟨(rfl : ([_] : G) = _), ?_⟩
  | with_reducible refine ⟨_, _, _, rfl, rfl, rfl, ?_⟩
  | refine iteT ?_
  | refine iteF ?_
  | with_reducible refine ⟨_, rfl, ?_⟩
  | with_reducible refine ⟨(by walk_at "len" : List.length _ ≤ _), ?_⟩
  | with_reducible refine ⟨(by walk_at "len" : PySem.Str.length _ ≤ _), ?_⟩)
local macro_rules | `(tactic| walk_at "go") => `(tactic| repeat walk_at "go1")
local macro_rules | `(tactic| walk_at "end") => `(tactic| first | rfl | exact ⟨rfl, rfl⟩ | exact ⟨_, rfl, rfl⟩ | exact ⟨_, _, rfl, rfl⟩)
local macro_rules | `(tactic| walk_at "auto1") => `(tactic| first | walk_at "go1" | walk_at "own" | refine iteT' (by decide +kernel) ?_ | refine iteF' (by decide +kernel) ?_ | refine iteB (fun h => ?_) (fun h => ?_))
local macro_rules | `(tactic| walk_at "auto") => `(tactic| repeat' walk_at "auto1")
section
variable {P : Program} {w : World} {K : PySem.W.Frag} {mg : Str → Option Value} {base : Heap}
/-! ### what the watches reckon -/
def hasB (b : BookS) (word name : Str) : Bool := decide (chk word name ∈ b.ch)
def loneB (b : BookS) : Bool := decide (("lone" : Str) ∈ b.ch)
def freshB (b : BookS) : Bool := decide (("fresh" : Str) ∈ b.ch)
def openB (b : BookS) (k : Str) : Bool := decide ((k, true) ∈ b.kk)
def mayPutB (b : BookS) (row : Str) : Bool := decide (row = "new") || (decide (row = "gone") && !freshB b)
noncomputable def mayMarkB (b : BookS) (kind letters : Str) : Bool := decide (kind ∈ markable b) && (decide (letters = "") || (!loneB b || openB b kind))
def joinL (l c : Str) : Str := if l = "" then c else if ltCps c.cps.toList l.cps.toList = true then c ++ l else l ++ c
def withL (b : BookS) (l c : Str) : Option Str := if l.length = 2 ∨ (l ≠ "" ∧ loneB b = true) then none else some (joinL l c)
def dOptS : Option Str → D
  | none => dN
  | some s => dS s
theorem rd_bookF {K : PySem.W.Frag} {b : BookS} {s : Str} {g : G} {Ψ : D → G → Prop} (q : Ψ (dB (decide (s ∈ b.ch))) g) : RD (rOwnIn (He.ga K "Book") (spR (R_Book___contains__ K)) false) (dS s) (dBook K b) g Ψ := rd_own ⟨_, _, (b, s), _, .im _ _ _, rfl, rfl, q⟩
theorem rd_bookT {K : PySem.W.Frag} {b : BookS} {s : Str} {g : G} {Ψ : D → G → Prop} (q : Ψ (dB (!decide (s ∈ b.ch))) g) : RD (rOwnIn (He.ga K "Book") (spR (R_Book___contains__ K)) true) (dS s) (dBook K b) g Ψ := rd_own ⟨_, _, (b, s), _, .im _ _ _, rfl, rfl, q⟩
local macro_rules | `(tactic| walk_at "own") => `(tactic| first | with_reducible refine rd_bookF ?_ | with_reducible refine rd_bookT ?_)
noncomputable def R_Watch_has (K : PySem.W.Frag) : RS := pureR (α := WatchS × Str × Str) (fun x ds => ds = [dWatch K x.1, dS x.2.1, dS x.2.2] ∧ x.2.1.length ≤ 100 ∧ x.2.2.length ≤ 100) (fun x => dB (hasB x.1.b x.2.1 x.2.2))
abbrev N_Watch_has : List Str := ["self", "word", "name"]
theorem sc_Watch_has : FnScope N_Watch_has ["self", "word", "name"] (defScope (inClass (top 31) 1)) := ⟨rfl, rfl, rfl, by decide +kernel, rfl, by decide +kernel, by decide +kernel⟩
theorem ok_Watch_has {f : Addr} {fd : FuncData} (T : Txt K mg) (c_Book___contains__ : Met P w K mg base CX0 2 (He.ga K "Book") "__contains__" ["self", "check"] (spR (R_Book___contains__ K))) (F : FunD K "has" "Watch.has" (defArgs (inClass (top 31) 1)) (defBody (inClass (top 31) 1)) (defScope (inClass (top 31) 1)) [] [] f fd) : FnOk P w K mg base CX0 3 f fd ["self", "word", "name"] (spR (R_Watch_has K)) := by
  refine okW F sc_Watch_has (by rintro ds g Q ⟨_, x, ⟨rfl, _⟩, _⟩; rfl) fun cdv A outer s H E hr => ⟨_, PSs.nox (pss_one (ps_ret (pe_cmpR (op_inM c_Book___contains__ (hr.mono (by decide)) pass0) (pe_join2 (.cons (pe_fmt (pv 1)) (.cons pe_str (.cons (pe_fmt (pv 2)) .nil)))) (k_fld (K := K) rfl (pv 0)) (by rfl)))), ?_⟩
  rintro ds g Q ⟨rfl, ⟨w, a, b⟩, ⟨rfl, ha, hb⟩, hQ⟩
  replace ha : a.length ≤ 100 := ha
  replace hb : b.length ≤ 100 := hb
  replace hQ : Q (dB (hasB w.b a b)) [] := hQ
  cases w with
  | kind bk hm =>
    dsimp only [dWatch]
    walk_at "auto"
    rw [empty_app]
    exact hQ
  | col bk cl =>
    dsimp only [dWatch]
    walk_at "auto"
    rw [empty_app]
    exact hQ
noncomputable def R_Watch_may_put (K : PySem.W.Frag) : RS := pureR (α := WatchS × Str) (fun x ds => ds = [dWatch K x.1, dS x.2]) (fun x => dB (mayPutB x.1.b x.2))
abbrev N_Watch_may_put : List Str := ["self", "row"]
theorem sc_Watch_may_put : FnScope N_Watch_may_put ["self", "row"] (defScope (inClass (top 31) 3)) := ⟨rfl, rfl, rfl, by decide +kernel, rfl, by decide +kernel, by decide +kernel⟩
theorem ok_Watch_may_put {f : Addr} {fd : FuncData} (T : Txt K mg) (c_Book___contains__ : Met P w K mg base CX0 2 (He.ga K "Book") "__contains__" ["self", "check"] (spR (R_Book___contains__ K))) (F : FunD K "may_put" "Watch.may_put" (defArgs (inClass (top 31) 3)) (defBody (inClass (top 31) 3)) (defScope (inClass (top 31) 3)) [] [] f fd) : FnOk P w K mg base CX0 3 f fd ["self", "row"] (spR (R_Watch_may_put K)) := by
  refine okW F sc_Watch_may_put (by rintro ds g Q ⟨_, x, rfl, _⟩; rfl) fun cdv A outer s H E hr => ⟨_, PSs.nox (pss_one (ps_ret (pe_or (pe_cmpR (k_eq (K := K) rfl hr.units) (pv 1) pe_str (nomark _)) (pe_one (pe_and (pe_cmpR (k_eq (K := K) rfl hr.units) (pv 1) pe_str (nomark _)) (pe_one (pe_cmpR (op_ninM c_Book___contains__ (hr.mono (by decide)) pass0) pe_str (k_fld (K := K) rfl (pv 0)) (by rfl)))))))), ?_⟩
  rintro ds g Q ⟨rfl, ⟨w, a⟩, rfl, hQ⟩
  replace hQ : Q (dB (mayPutB w.b a)) [] := hQ
  unfold mayPutB freshB at hQ
  cases w with
  | kind bk hm =>
    dsimp only [dWatch]
    walk_at "auto"
    all_goals (simp only [*, Bool.true_or, Bool.false_or, Bool.true_and, Bool.false_and] at hQ; exact hQ)
  | col bk cl =>
    dsimp only [dWatch]
    walk_at "auto"
    all_goals (simp only [*, Bool.true_or, Bool.false_or, Bool.true_and, Bool.false_and] at hQ; exact hQ)
theorem open_of {b : BookS} (wf : WfB b.kk b.cc) {p : Str × Bool} (h : p ∈ b.kk) : openB b p.1 = p.2 := by
  have nd := wf.kinds.nd
  obtain ⟨k, o⟩ := p
  unfold openB
  cases o with
  | true => exact decide_eq_true h
  | false =>
    refine decide_eq_false fun z => ?_
    obtain ⟨i, hi⟩ := List.getElem?_of_mem h
    obtain ⟨j, hj⟩ := List.getElem?_of_mem z
    have li := (List.getElem?_eq_some_iff.mp hi)
    have lj := (List.getElem?_eq_some_iff.mp hj)
    obtain ⟨li, ei⟩ := li
    obtain ⟨lj, ej⟩ := lj
    have : i = j := by
      refine (List.getElem_inj (h₀ := by simpa using li) (h₁ := by simpa using lj) nd).mp ?_
      simp [ei, ej]
    subst this
    rw [ei] at ej
    cases ej
theorem dlk_kinds {b : BookS} (wf : WfB b.kk b.cc) {k : Str} (h : k ∈ b.kk.map (·.1)) : dlk (b.kk.map fun k => (Sum.inr k.1 : Key)) (b.kk.map fun k => dB k.2) (Sum.inr k) = some (dB (openB b k)) := by
  obtain ⟨p, hp, rfl⟩ := List.mem_map.mp h
  rw [open_of wf hp]
  exact dlk_map (f := fun k : Str × Bool => (Sum.inr k.1 : Key)) (r := fun k => dB k.2) (inr_nodup wf.kinds.nd) hp
theorem markable_sub {b : BookS} {k : Str} (h : k ∈ markable b) : k ∈ b.kk.map (·.1) := (List.mem_filter.mp h).1
noncomputable def R_Watch_may_mark (K : PySem.W.Frag) : RS := pureR (α := WatchS × Str × Str) (fun x ds => ds = [dWatch K x.1, dS x.2.1, dS x.2.2] ∧ WfB x.1.b.kk x.1.b.cc) (fun x => dB (mayMarkB x.1.b x.2.1 x.2.2))
abbrev N_Watch_may_mark : List Str := ["self", "kind", "letters"]
theorem sc_Watch_may_mark : FnScope N_Watch_may_mark ["self", "kind", "letters"] (defScope (inClass (top 31) 2)) := ⟨rfl, rfl, rfl, by decide +kernel, rfl, by decide +kernel, by decide +kernel⟩
theorem ok_Watch_may_mark {f : Addr} {fd : FuncData} (T : Txt K mg) (c_Book___contains__ : Met P w K mg base CX0 2 (He.ga K "Book") "__contains__" ["self", "check"] (spR (R_Book___contains__ K))) (F : FunD K "may_mark" "Watch.may_mark" (defArgs (inClass (top 31) 2)) (defBody (inClass (top 31) 2)) (defScope (inClass (top 31) 2)) [] [] f fd) : FnOk P w K mg base CX0 3 f fd ["self", "kind", "letters"] (spR (R_Watch_may_mark K)) := by
  refine okW F sc_Watch_may_mark (by rintro ds g Q ⟨_, x, ⟨rfl, _⟩, _⟩; rfl) fun cdv A outer s H E hr => ⟨_, PSs.nox (pss_cons (ps_if (pt_cmpR (k_nin (K := K) rfl (hu_of hr)) (pv 1) (k_fld (K := K) rfl (pv 0)) (by rfl)) (pss_one (ps_ret pe_bl)) pss_nil)
      (pss_one (ps_ret (pe_or (pe_cmpR (k_eq (K := K) rfl hr.units) (pv 2) pe_str (nomark _)) (pe_or (pe_cmpR (op_ninM c_Book___contains__ (hr.mono (by decide)) pass0) pe_str (k_fld (K := K) rfl (pv 0)) (by rfl)) (pe_one (pe_ix (k_ix (K := K) rfl (hu_of hr)) (k_fld (K := K) rfl (k_fld (K := K) rfl (pv 0))) (pv 1) (fun _ _ => rfl)))))))), ?_⟩
  rintro ds g Q ⟨rfl, ⟨w, k, l⟩, ⟨rfl, wf⟩, hQ⟩
  replace wf : WfB w.b.kk w.b.cc := wf
  replace hQ : Q (dB (mayMarkB w.b k l)) [] := hQ
  unfold mayMarkB loneB at hQ
  cases w with
  | kind bk hm =>
    dsimp only [dWatch]
    walk_at "auto"
    refine inA_L (neg := true) (.l _ _ (.im _)) rfl ?_
    by_cases hk : k ∈ markable bk
    · have hQ2 : Q (dB (decide (k ∈ markable bk) && (decide (l = "") || (!decide (("lone" : Str) ∈ bk.ch) || openB bk k)))) [] := hQ
      simp only [hk, decide_true, Bool.true_and] at hQ2
      rw [decide_eq_true hk]
      walk_at "auto"
      · simp only [*, Bool.true_or] at hQ2; exact hQ2
      · have h3 : (!decide (("lone" : Str) ∈ bk.ch)) = true := by assumption
        simp only [*, Bool.true_or, Bool.false_or] at hQ2
        exact hQ2
      · refine ixA_D (.im _ _) (dlk_kinds wf (markable_sub hk)) ?_
        have h3 : (!decide (("lone" : Str) ∈ bk.ch)) = false := by assumption
        simp only [*, Bool.true_or, Bool.false_or] at hQ2
        exact hQ2
    · have hQ2 : Q (dB (decide (k ∈ markable bk) && (decide (l = "") || (!decide (("lone" : Str) ∈ bk.ch) || openB bk k)))) [] := hQ
      simp only [hk, decide_false, Bool.false_and] at hQ2
      rw [decide_eq_false hk]
      walk_at "auto"
      exact hQ2
  | col bk cl =>
    dsimp only [dWatch]
    walk_at "auto"
    refine inA_L (neg := true) (.l _ _ (.im _)) rfl ?_
    by_cases hk : k ∈ markable bk
    · have hQ2 : Q (dB (decide (k ∈ markable bk) && (decide (l = "") || (!decide (("lone" : Str) ∈ bk.ch) || openB bk k)))) [] := hQ
      simp only [hk, decide_true, Bool.true_and] at hQ2
      rw [decide_eq_true hk]
      walk_at "auto"
      · simp only [*, Bool.true_or] at hQ2; exact hQ2
      · have h3 : (!decide (("lone" : Str) ∈ bk.ch)) = true := by assumption
        simp only [*, Bool.true_or, Bool.false_or] at hQ2
        exact hQ2
      · refine ixA_D (.im _ _) (dlk_kinds wf (markable_sub hk)) ?_
        have h3 : (!decide (("lone" : Str) ∈ bk.ch)) = false := by assumption
        simp only [*, Bool.true_or, Bool.false_or] at hQ2
        exact hQ2
    · have hQ2 : Q (dB (decide (k ∈ markable bk) && (decide (l = "") || (!decide (("lone" : Str) ∈ bk.ch) || openB bk k)))) [] := hQ
      simp only [hk, decide_false, Bool.false_and] at hQ2
      rw [decide_eq_false hk]
      walk_at "auto"
      exact hQ2
theorem perm2 {α : Type} {a b : α} {ys : List α} (h : ys.Perm [a, b]) : ys = [a, b] ∨ ys = [b, a] := by
  have hl := h.length_eq
  match ys, hl with
  | [x, y], _ =>
    have hx : x ∈ [a, b] := h.subset (by simp)
    simp only [List.mem_cons, List.not_mem_nil, or_false] at hx
    rcases hx with rfl | rfl
    · have h2 := (List.perm_cons x).mp h
      exact .inl (by rw [List.singleton_perm_singleton.mp h2])
    · have h2 : [x, y].Perm [x, a] := h.trans (.swap _ _ _)
      have h3 := (List.perm_cons x).mp h2
      exact .inr (by rw [List.singleton_perm_singleton.mp h3])
abbrev s1 (a : Nat) : Str := ⟨#[a]⟩
theorem join1 (x : Str) : Txt.join "" [x] = x := by rw [TL.join_eq]; rfl
theorem join2 (x y : Str) : Txt.join "" [x, y] = x ++ y := by
  rw [TL.join_eq]
  show x ++ (Str.empty : Str) ++ Str.join Str.empty [y] = x ++ y
  show (⟨(x.cps ++ #[]) ++ y.cps⟩ : Str) = ⟨x.cps ++ y.cps⟩
  rw [Array.append_empty]
theorem lt_one (a b : Nat) : ltCps [a] [b] = decide (a < b) := by
  unfold ltCps
  by_cases h : a < b
  · simp [h]
  · by_cases h2 : b < a
    · have : a ≠ b := by omega
      simp [h, h2, this]
    · simp [h, h2, ltCps]
theorem sorted1 {a : Nat} {ys : List Str} (h : ys.Perm [s1 a]) : Txt.join "" ys = joinL "" (s1 a) := by
  rw [List.perm_singleton.mp h, join1]; rfl
theorem sorted2 {a c : Nat} {ys : List Str} (h : ys.Perm [s1 a, s1 c]) (s : sortedS ys = true) : Txt.join "" ys = joinL (s1 a) (s1 c) := by
  have ne : ¬ s1 a = ("" : Str) := fun z => by
    have : (1 : Nat) = 0 := congrArg Str.length z
    cases this
  unfold joinL
  rw [if_neg ne, show (s1 c).cps.toList = [c] from rfl, show (s1 a).cps.toList = [a] from rfl, lt_one]
  rcases perm2 h with rfl | rfl
  · rw [join2]
    simp only [sortedS, risingS, Bool.and_true, Bool.not_eq_true', show (s1 c).cps.toList = [c] from rfl, show (s1 a).cps.toList = [a] from rfl, lt_one] at s
    rw [s]; rfl
  · rw [join2]
    simp only [sortedS, risingS, Bool.and_true, Bool.not_eq_true', show (s1 c).cps.toList = [c] from rfl, show (s1 a).cps.toList = [a] from rfl, lt_one, decide_eq_false_iff_not] at s
    by_cases h2 : c < a
    · rw [decide_eq_true h2]; rfl
    · have : a = c := by omega
      subst this
      rw [decide_eq_false h2]; rfl
/-- lists of at most two letters, a letter -/
def isL (l : Str) : Prop := l = "" ∨ (∃ a, l = s1 a) ∨ ∃ a b, l = ⟨#[a, b]⟩
noncomputable def R_Watch_with_letter (K : PySem.W.Frag) : RS := pureR (α := WatchS × Str × Nat) (fun x ds => ds = [dWatch K x.1, dS x.2.1, dS (s1 x.2.2)] ∧ isL x.2.1) (fun x => dOptS (withL x.1.b x.2.1 (s1 x.2.2)))
abbrev N_Watch_with_letter : List Str := ["self", "letters", "letter", "one"]
theorem sc_Watch_with_letter : FnScope N_Watch_with_letter ["self", "letters", "letter"] (defScope (inClass (top 31) 4)) := ⟨rfl, rfl, rfl, by decide +kernel, rfl, by decide +kernel, by decide +kernel⟩
theorem ok_Watch_with_letter {f : Addr} {fd : FuncData} (T : Txt K mg) (c_Book___contains__ : Met P w K mg base CX0 2 (He.ga K "Book") "__contains__" ["self", "check"] (spR (R_Book___contains__ K))) (F : FunD K "with_letter" "Watch.with_letter" (defArgs (inClass (top 31) 4)) (defBody (inClass (top 31) 4)) (defScope (inClass (top 31) 4)) [] [] f fd) : FnOk P w K mg base CX0 3 f fd ["self", "letters", "letter"] (spR (R_Watch_with_letter K)) := by
  refine okW F sc_Watch_with_letter (by rintro ds g Q ⟨_, x, ⟨rfl, _⟩, _⟩; rfl) fun cdv A outer s H E hr => ⟨_, PSs.nox (pss_cons (ps_if (PW.pt (pw_or (pt_cmpR (k_eq (K := K) rfl hr.units) (pe_callB (k_len (K := K) rfl) (by rfl) T.f_len (by decide +kernel) (pa_cons (pv 1) pa_nil)) pe_int (nomark _)) (pw_or1 (PW.pt (pw_and (pt_cmpR (k_ne (K := K) rfl hr.units) (pv 1) pe_str (nomark _)) (pw_and1 (pt_cmpR (op_inM c_Book___contains__ (hr.mono (by decide)) pass0) pe_str (k_fld (K := K) rfl (pv 0)) (by rfl)))))))) (pss_one (ps_ret pe_non)) pss_nil)
      (pss_one (ps_ret (k_join (K := K) rfl pe_str (pe_callB (k_sortedS (K := K) rfl) (by rfl) T.f_sorted (by decide +kernel) (pa_cons (pe_lc (own := [("one", 3)]) rfl sc_Watch_with_letter.nd (k_any (K := K) rfl (pe_op op_addA (pv 1) (pv 2))) (blkOk_by (own := [("one", 3)]) (N := N_Watch_with_letter) (sc := defScope (inClass (top 31) 4)) (by decide +kernel)) (fun _ _ _ _ _ => (pg_name (i := 3) sc_Watch_with_letter.nd rfl (by first | exact Or.inl rfl | exact Or.inr rfl))) (fun _ _ _ _ _ => pts_nil) (fun _ _ _ _ _ => (pe_callTy call_strA (by rfl) T.f_str boot_str (pa_cons (pv 3) pa_nil)))) pa_nil)))))), ?_⟩
  rintro ds g Q ⟨rfl, ⟨w, l, c⟩, ⟨rfl, hl⟩, hQ⟩
  replace hl : isL l := hl
  replace hQ : Q (dOptS (withL w.b l (s1 c))) [] := hQ
  have l1 : (s1 c).length = 1 := rfl
  have hll : l.length ≤ 2 := by
    rcases hl with rfl | ⟨a, rfl⟩ | ⟨a, b, rfl⟩
    · exact (by decide : Str.length "" ≤ 2)
    · exact (by show 1 ≤ 2; decide)
    · exact (by show 2 ≤ 2; decide)
  have hN : (l.length = 2 ∨ (l ≠ "" ∧ loneB w.b = true)) → Q dN [] := fun z => by
    unfold withL at hQ
    rw [if_pos z] at hQ; exact hQ
  have hS : ¬ (l.length = 2 ∨ (l ≠ "" ∧ loneB w.b = true)) → Q (dS (joinL l (s1 c))) [] := fun z => by
    unfold withL at hQ
    rw [if_neg z] at hQ; exact hQ
  cases w with
  | kind bk hm =>
    dsimp only [dWatch]
    walk_at "auto"
    · rename_i h
      exact hN (.inl (by have := of_decide_eq_true h; omega))
    · rename_i h1 h2 h3
      simp only [Bool.not_eq_true', decide_eq_false_iff_not] at h2
      exact hN (.inr ⟨h2, h3⟩)
    all_goals
      have hS2 : Q (dS (joinL l (s1 c))) [] := hS (by
        rintro (z | ⟨z1, z2⟩)
        · simp_all
        · simp_all [loneB, WatchS.b])
      have hl2 : l.length ≠ 2 := by
        intro z
        simp_all
      refine lc_map (α := Nat) (fun a => dS (s1 a)) (yi_any ?_)
      walk_at "auto"
      refine addA_S (by omega) ?_
      refine ⟨_, _, .str _, by simp, (l ++ s1 c).cps.toList, _, rfl, ?_, fun a ha => wgc_name (by simp) ?_, ?_⟩
      · rcases hl with rfl | ⟨a, rfl⟩ | ⟨a, b, rfl⟩
        · exact (by decide : 1 < 1000000)
        · exact (by decide : 2 < 1000000)
        · exact absurd rfl hl2
      · walk_at "auto"
        exact ⟨rfl, rfl⟩
      walk_at "auto"
      rcases hl with rfl | ⟨a, rfl⟩ | ⟨a, b, rfl⟩
      · refine rc_sortedS (ss := [s1 c]) (.im _) rfl (by show 1 < 64; decide) fun ys hp hs => ?_
        refine rm_join (.l _ _ (.im _)) rfl ?_ ?_
        · rw [List.perm_singleton.mp hp]; exact (by decide : (1 : Nat) ≤ 16777216)
        · rw [sorted1 hp]; exact hS2
      · refine rc_sortedS (ss := [s1 a, s1 c]) (.im _) rfl (by show 2 < 64; decide) fun ys hp hs => ?_
        refine rm_join (.l _ _ (.im _)) rfl ?_ ?_
        · rcases perm2 hp with rfl | rfl <;> exact (by decide : (2 : Nat) ≤ 16777216)
        · rw [sorted2 hp hs]; exact hS2
      · exact absurd rfl hl2
  | col bk cl =>
    dsimp only [dWatch]
    walk_at "auto"
    · rename_i h
      exact hN (.inl (by have := of_decide_eq_true h; omega))
    · rename_i h1 h2 h3
      simp only [Bool.not_eq_true', decide_eq_false_iff_not] at h2
      exact hN (.inr ⟨h2, h3⟩)
    all_goals
      have hS2 : Q (dS (joinL l (s1 c))) [] := hS (by
        rintro (z | ⟨z1, z2⟩)
        · simp_all
        · simp_all [loneB, WatchS.b])
      have hl2 : l.length ≠ 2 := by
        intro z
        simp_all
      refine lc_map (α := Nat) (fun a => dS (s1 a)) (yi_any ?_)
      walk_at "auto"
      refine addA_S (by omega) ?_
      refine ⟨_, _, .str _, by simp, (l ++ s1 c).cps.toList, _, rfl, ?_, fun a ha => wgc_name (by simp) ?_, ?_⟩
      · rcases hl with rfl | ⟨a, rfl⟩ | ⟨a, b, rfl⟩
        · exact (by decide : 1 < 1000000)
        · exact (by decide : 2 < 1000000)
        · exact absurd rfl hl2
      · walk_at "auto"
        exact ⟨rfl, rfl⟩
      walk_at "auto"
      rcases hl with rfl | ⟨a, rfl⟩ | ⟨a, b, rfl⟩
      · refine rc_sortedS (ss := [s1 c]) (.im _) rfl (by show 1 < 64; decide) fun ys hp hs => ?_
        refine rm_join (.l _ _ (.im _)) rfl ?_ ?_
        · rw [List.perm_singleton.mp hp]; exact (by decide : (1 : Nat) ≤ 16777216)
        · rw [sorted1 hp]; exact hS2
      · refine rc_sortedS (ss := [s1 a, s1 c]) (.im _) rfl (by show 2 < 64; decide) fun ys hp hs => ?_
        refine rm_join (.l _ _ (.im _)) rfl ?_ ?_
        · rcases perm2 hp with rfl | rfl <;> exact (by decide : (2 : Nat) ≤ 16777216)
        · rw [sorted2 hp hs]; exact hS2
      · exact absurd rfl hl2
end
end Ls
set_option Elab.async false
set_option linter.all false
set_option maxRecDepth 100000
set_option maxHeartbeats 4000000
set_option autoImplicit false
namespace Ls
open PySem PySem.Spec PyProof.Rows L2 Dl
local macro_rules | `(tactic| walk_at "nof") => `(tactic| first
  | with_reducible exact Txt.n_Column_word (by assumption)
  | with_reducible exact Txt.n_Column_home (by assumption)
  | with_reducible exact Txt.n_Column_goal (by assumption)
  | with_reducible exact Txt.n_Column_rule (by assumption)
  | with_reducible exact Txt.n_Book_open_kinds (by assumption)
  | with_reducible exact Txt.n_Book_column_rows (by assumption)
  | with_reducible exact Txt.n_Book_column_table (by assumption)
  | with_reducible exact Txt.n_Book_all_checks (by assumption)
  | with_reducible exact Txt.n_Book_own_checks (by assumption)
  | with_reducible exact Txt.n_Watch_law_book (by assumption)
  | with_reducible exact Txt.n_Watch_home (by assumption)
  | with_reducible exact Txt.n_Watch_can_mark (by assumption)
  | with_reducible exact Txt.n_Watch_sorts (by assumption)
  | with_reducible exact Txt.n_KindWatch_law_book (by assumption)
  | with_reducible exact Txt.n_KindWatch_home (by assumption)
  | with_reducible exact Txt.n_KindWatch_can_mark (by assumption)
  | with_reducible exact Txt.n_KindWatch_sorts (by assumption)
  | with_reducible exact Txt.n_ColumnWatch_law_book (by assumption)
  | with_reducible exact Txt.n_ColumnWatch_home (by assumption)
  | with_reducible exact Txt.n_ColumnWatch_can_mark (by assumption)
  | with_reducible exact Txt.n_ColumnWatch_sorts (by assumption)
  | with_reducible exact Txt.n_ColumnWatch_by (by assumption)
  | with_reducible exact Txt.n_ColumnWatch_goal (by assumption)
  | with_reducible exact Txt.n_ColumnWatch_other_column (by assumption)
  | with_reducible exact Txt.n_Weaver_watch (by assumption)
  | with_reducible exact Txt.n_Weaver_way (by assumption)
  | with_reducible exact Txt.n_Weaver_made (by assumption)
  | with_reducible exact Txt.n_Weaver_held (by assumption)
  | with_reducible exact Txt.n_Weaver_chains (by assumption)
  | with_reducible exact Txt.n_Weaver_unused (by assumption))
local macro_rules | `(tactic| walk_at "cls") => `(tactic| first
  | with_reducible exact Txt.cl_Column (by assumption)
  | with_reducible exact Txt.cl_Book (by assumption)
  | with_reducible exact Txt.cl_Watch (by assumption)
  | with_reducible exact Txt.cl_KindWatch (by assumption)
  | with_reducible exact Txt.cl_ColumnWatch (by assumption)
  | with_reducible exact Txt.cl_Weaver (by assumption))
local macro_rules | `(tactic| walk_at "dlf") => `(tactic| first
  | with_reducible exact dlf_Column_word ..
  | with_reducible exact dlf_Column_home ..
  | with_reducible exact dlf_Column_goal ..
  | with_reducible exact dlf_Column_rule ..
  | with_reducible exact dlf_Book_open_kinds ..
  | with_reducible exact dlf_Book_column_rows ..
  | with_reducible exact dlf_Book_column_table ..
  | with_reducible exact dlf_Book_all_checks ..
  | with_reducible exact dlf_Book_own_checks ..
  | with_reducible exact dlf_Watch_law_book ..
  | with_reducible exact dlf_Watch_home ..
  | with_reducible exact dlf_Watch_can_mark ..
  | with_reducible exact dlf_Watch_sorts ..
  | with_reducible exact dlf_KindWatch_law_book ..
  | with_reducible exact dlf_KindWatch_home ..
  | with_reducible exact dlf_KindWatch_can_mark ..
  | with_reducible exact dlf_KindWatch_sorts ..
  | with_reducible exact dlf_ColumnWatch_law_book ..
  | with_reducible exact dlf_ColumnWatch_home ..
  | with_reducible exact dlf_ColumnWatch_can_mark ..
  | with_reducible exact dlf_ColumnWatch_sorts ..
  | with_reducible exact dlf_ColumnWatch_by ..
  | with_reducible exact dlf_ColumnWatch_goal ..
  | with_reducible exact dlf_ColumnWatch_other_column ..
  | with_reducible exact dlf_Weaver_watch ..
  | with_reducible exact dlf_Weaver_way ..
  | with_reducible exact dlf_Weaver_made ..
  | with_reducible exact dlf_Weaver_held ..
  | with_reducible exact dlf_Weaver_chains ..
  | with_reducible exact dlf_Weaver_unused ..)
local macro_rules | `(tactic| walk_at "len") => `(tactic| first | decide | (simp; done) | omega | (simp; omega) | (simp only [PySem.Str.length_append, sizeLine_eq, len_empty, len_space]; omega))
local macro_rules | `(tactic| walk_at "go1") => `(tactic| first
  | with_reducible refine ws_seq ?_
  | with_reducible refine ws_set ?_
  | with_reducible refine ws_ret ?_
  | with_reducible refine ws_if ?_
  | with_reducible refine ws_drop ?_
  | with_reducible refine ws_next ?_
  | with_reducible refine ws_retN ?_
  | with_reducible refine ws_cont ?_
  | with_reducible refine ws_brk ?_
  | with_reducible refine ws_asg ?_
  | with_reducible refine ye_var (by with_unfolding_all rfl) ?_
  | with_reducible refine ye_c ?_
  | with_reducible refine ye_op ?_
  | with_reducible refine ye_cb ?_
  | with_reducible refine ye_bm ?_
  | with_reducible refine ye_m1 ?_
  | with_reducible refine ye_if ?_
  | with_reducible refine ye_andV ?_
  | with_reducible refine ye_orV ?_
  | with_reducible refine ye_notV ?_
  | with_reducible refine ye_join ?_
  | with_reducible refine ye_fmt ?_
  | with_reducible refine ye_fld ?_
  | with_reducible refine ye_items ?_
  | with_reducible refine ye_sl ?_
  | with_reducible refine ye_tup ?_
  | with_reducible refine yo_none ?_
  | with_reducible refine yo_some ?_
  | with_reducible refine yt_B ?_
  | with_reducible refine yt_test ?_
  | with_reducible refine yt_and ?_
  | with_reducible refine yt_or ?_
  | with_reducible refine yt_not ?_
  | with_reducible refine yt_yes ?_
  | with_reducible refine ya_nil ?_
  | with_reducible refine ya_cons ?_
  | with_reducible refine ya_starA ?_
  | with_reducible refine yj_nil ?_
  | with_reducible refine yj_cons ?_
  | with_reducible refine wg_name ?_
  | with_reducible refine eqA_S ?_
  | with_reducible refine neA_S ?_
  | with_reducible refine eqA_I ?_
  | with_reducible refine neA_I ?_
  | with_reducible refine addA_I ?_
  | with_reducible refine rd_I0 ?_
  | with_reducible refine isi_SS ?_
  | with_reducible refine rc_strS ?_
  | with_reducible refine rd_isN ?_
  | with_reducible refine rd_notN ?_
  | with_reducible refine chain_I ?_
  | with_reducible refine rc_lenS (by walk_at "len") ?_
  | with_reducible refine inA_S ?_
  | with_reducible refine ws_fld1 (by with_unfolding_all rfl) (by walk_at "cls") (by walk_at "nof") (by decide +kernel) (by decide +kernel) ?_
  | with_reducible refine ⟨_, _, _, _, OV.im _ _ _, by walk_at "cls", by walk_at "nof", by walk_at "dlf", ?_⟩
  | with_reducible refine ⟨_, _, _, _, OV.mu _ _ _ _ (List.mem_singleton.mpr rfl), by walk_at "cls", by walk_at "nof", by with_unfolding_all rfl, ?_⟩
  | with_reducible refine ⟨(rfl : ([_] : G) = _), ?_⟩
  | with_reducible refine ⟨_, _, _, rfl, rfl, rfl, ?_⟩
  | refine iteT ?_
  | refine iteF ?_
  | with_reducible refine ⟨_, rfl, ?_⟩
  | with_reducible refine ⟨(by walk_at "len" : List.length _ ≤ _), ?_⟩
  | with_reducible refine ⟨(by walk_at "len" : PySem.Str.length _ ≤ _), ?_⟩)
local macro_rules | `(tactic| walk_at "go") => `(tactic| repeat walk_at "go1")
local macro_rules | `(tactic| walk_at "end") => `(tactic| first | rfl | exact ⟨rfl, rfl⟩ | exact ⟨_, rfl, rfl⟩ | exact ⟨_, _, rfl, rfl⟩)
local macro_rules | `(tactic| walk_at "auto1") => `(tactic| first | walk_at "go1" | walk_at "own" | refine iteT' (by decide +kernel) ?_ | refine iteF' (by decide +kernel) ?_ | refine iteB (fun h => ?_) (fun h => ?_))
local macro_rules | `(tactic| walk_at "auto") => `(tactic| repeat' walk_at "auto1")
local macro_rules | `(tactic| walk_at "own") => `(tactic| first
  | with_reducible refine rd_bookF ?_
  | with_reducible refine rd_bookT ?_
  | with_reducible refine ⟨_, _, OV.im _ _ _, by decide +kernel, ?_⟩
  | with_reducible refine ixA_L (.t _) (by with_unfolding_all rfl) ?_
  | with_reducible refine ixA_L (.r _ _ _) (by with_unfolding_all rfl) ?_
  | with_reducible refine wg_tupN (by repeat constructor) ⟨_, rfl, rfl, rfl, ?_⟩
  | with_reducible refine ye_lackC ?_
  | with_reducible refine inA_b2F ?_
  | with_reducible refine inA_b2T ?_
  | with_reducible refine inA_SF ?_
  | with_reducible refine inA_ST ?_
  | with_reducible refine inA_hereF (by assumption) ?_
  | with_reducible refine inA_hereT (by assumption) ?_
  | with_reducible refine ye_disp ?_
  | with_reducible refine yp_cons ?_
  | with_reducible refine yp_nil ?_
  | refine ye_methQ ?_)
section
variable {P : Program} {w : World} {K : PySem.W.Frag} {mg : Str → Option Value} {base : Heap}
theorem sgLab : (¬ (("look" : Str) = "do")) ∧ (¬ (("look" : Str) = "stop")) ∧ (¬ (("look" : Str) = "put")) ∧ (¬ (("look" : Str) = "turn")) ∧ (¬ (("look" : Str) = "mark")) ∧ (¬ (("look" : Str) = "strike")) ∧ (¬ (("do" : Str) = "look")) ∧ (¬ (("do" : Str) = "stop")) ∧ (¬ (("do" : Str) = "put")) ∧ (¬ (("do" : Str) = "turn")) ∧ (¬ (("do" : Str) = "mark")) ∧ (¬ (("do" : Str) = "strike")) ∧ (¬ (("stop" : Str) = "look")) ∧ (¬ (("stop" : Str) = "do")) ∧ (¬ (("stop" : Str) = "put")) ∧ (¬ (("stop" : Str) = "turn")) ∧ (¬ (("stop" : Str) = "mark")) ∧ (¬ (("stop" : Str) = "strike")) ∧ (¬ (("put" : Str) = "look")) ∧ (¬ (("put" : Str) = "do")) ∧ (¬ (("put" : Str) = "stop")) ∧ (¬ (("put" : Str) = "turn")) ∧ (¬ (("put" : Str) = "mark")) ∧ (¬ (("put" : Str) = "strike")) ∧ (¬ (("turn" : Str) = "look")) ∧ (¬ (("turn" : Str) = "do")) ∧ (¬ (("turn" : Str) = "stop")) ∧ (¬ (("turn" : Str) = "put")) ∧ (¬ (("turn" : Str) = "mark")) ∧ (¬ (("turn" : Str) = "strike")) ∧ (¬ (("mark" : Str) = "look")) ∧ (¬ (("mark" : Str) = "do")) ∧ (¬ (("mark" : Str) = "stop")) ∧ (¬ (("mark" : Str) = "put")) ∧ (¬ (("mark" : Str) = "turn")) ∧ (¬ (("mark" : Str) = "strike")) ∧ (¬ (("strike" : Str) = "look")) ∧ (¬ (("strike" : Str) = "do")) ∧ (¬ (("strike" : Str) = "stop")) ∧ (¬ (("strike" : Str) = "put")) ∧ (¬ (("strike" : Str) = "turn")) ∧ (¬ (("strike" : Str) = "mark")) := by decide +kernel
theorem sgRow : (¬ (("x" : Str) = "y")) ∧ (¬ (("x" : Str) = "z")) ∧ (¬ (("x" : Str) = "-")) ∧ (¬ (("x" : Str) = "")) ∧ (¬ (("y" : Str) = "x")) ∧ (¬ (("y" : Str) = "z")) ∧ (¬ (("y" : Str) = "-")) ∧ (¬ (("y" : Str) = "")) ∧ (¬ (("z" : Str) = "x")) ∧ (¬ (("z" : Str) = "y")) ∧ (¬ (("z" : Str) = "-")) ∧ (¬ (("z" : Str) = "")) ∧ (¬ (("-" : Str) = "x")) ∧ (¬ (("-" : Str) = "y")) ∧ (¬ (("-" : Str) = "z")) ∧ (¬ (("-" : Str) = "")) ∧ (¬ (("" : Str) = "x")) ∧ (¬ (("" : Str) = "y")) ∧ (¬ (("" : Str) = "z")) ∧ (¬ (("" : Str) = "-")) := by decide +kernel
theorem sgSt : (¬ (("plain" : Str) = "marked")) ∧ (¬ (("plain" : Str) = "other")) ∧ (¬ (("plain" : Str) = "gone")) ∧ (¬ (("plain" : Str) = "new")) ∧ (¬ (("marked" : Str) = "plain")) ∧ (¬ (("marked" : Str) = "other")) ∧ (¬ (("marked" : Str) = "gone")) ∧ (¬ (("marked" : Str) = "new")) ∧ (¬ (("other" : Str) = "plain")) ∧ (¬ (("other" : Str) = "marked")) ∧ (¬ (("other" : Str) = "gone")) ∧ (¬ (("other" : Str) = "new")) ∧ (¬ (("gone" : Str) = "plain")) ∧ (¬ (("gone" : Str) = "marked")) ∧ (¬ (("gone" : Str) = "other")) ∧ (¬ (("gone" : Str) = "new")) ∧ (¬ (("new" : Str) = "plain")) ∧ (¬ (("new" : Str) = "marked")) ∧ (¬ (("new" : Str) = "other")) ∧ (¬ (("new" : Str) = "gone")) := by decide +kernel
theorem sgLet : (¬ (("S" : Str) = "C")) ∧ (¬ (("S" : Str) = "X")) ∧ (¬ (("S" : Str) = "Y")) ∧ (¬ (("C" : Str) = "S")) ∧ (¬ (("C" : Str) = "X")) ∧ (¬ (("C" : Str) = "Y")) ∧ (¬ (("X" : Str) = "S")) ∧ (¬ (("X" : Str) = "C")) ∧ (¬ (("X" : Str) = "Y")) ∧ (¬ (("Y" : Str) = "S")) ∧ (¬ (("Y" : Str) = "C")) ∧ (¬ (("Y" : Str) = "X")) := by decide +kernel
theorem markable_ok {b : BookS} : ((markable b).map dS) = (markable b).map dS := rfl
abbrev fs_W : List Str := ["law_book", "home", "can_mark", "sorts"]
noncomputable abbrev fldsW (K : PySem.W.Frag) (b : BookS) (h : Str) : List D := [dBook K b, dS h, .lst ((markable b).map dS), dS "X"]
noncomputable def R_Watch___init__ (K : PySem.W.Frag) : RS := detR (α := Addr × Bool × BookS × Str) (fun x ds g => ds = [.v (.ref x.1), dBook K x.2.2.1, dS x.2.2.2] ∧ g = [(x.1, .obj (if x.2.1 then He.ga K "KindWatch" else He.ga K "ColumnWatch") [] [])] ∧ WfB x.2.2.1.kk x.2.2.1.cc) (fun _ => dN)
  (fun x => [(x.1, .obj (if x.2.1 then He.ga K "KindWatch" else He.ga K "ColumnWatch") fs_W (fldsW K x.2.2.1 x.2.2.2))])
abbrev N_Watch___init__ : List Str := ["self", "book", "home"]
theorem sc_Watch___init__ : FnScope N_Watch___init__ ["self", "book", "home"] (defScope (inClass (top 31) 0)) := ⟨rfl, rfl, rfl, by decide +kernel, rfl, by decide +kernel, by decide +kernel⟩
theorem ok_Watch___init__ {f : Addr} {fd : FuncData} (T : Txt K mg) (c_Book_markable : Met P w K mg base CX0 1 (He.ga K "Book") "markable" ["self"] (spR (R_Book_markable K))) (F : FunD K "__init__" "Watch.__init__" (defArgs (inClass (top 31) 0)) (defBody (inClass (top 31) 0)) (defScope (inClass (top 31) 0)) [] [] f fd) : FnOk P w K mg base CX0 2 f fd ["self", "book", "home"] (spR (R_Watch___init__ K)) := by
  refine okW F sc_Watch___init__ (by rintro ds g Q ⟨x, ⟨rfl, _⟩, _⟩; rfl) fun cdv A outer s H E hr => ⟨_, PSs.nox (pss_cons (k_sfld (K := K) rfl (pv 0) (pv 1))
      (pss_cons (k_sfld (K := K) rfl (pv 0) (pv 2))
      (pss_cons (k_sfld (K := K) rfl (pv 0) (pe_met0 c_Book_markable (hr.mono (by decide)) pass0 (pv 1)))
      (pss_one (k_sfld (K := K) rfl (pv 0) pe_str))))), ?_⟩
  rintro ds g Q ⟨⟨a, k, b, h⟩, ⟨rfl, rfl, wf⟩, hQ⟩
  replace wf : WfB b.kk b.cc := wf
  cases k with
  | true =>
    simp only [if_true] at hQ ⊢
    walk_at "auto"
    refine ⟨b, ⟨rfl, wf⟩, ?_⟩
    walk_at "auto"
    exact hQ
  | false =>
    simp only [Bool.false_eq_true, if_false] at hQ ⊢
    walk_at "auto"
    refine ⟨b, ⟨rfl, wf⟩, ?_⟩
    walk_at "auto"
    exact hQ
abbrev hereL : List Str := ["plain", "marked", "other"]
def in2 (x a b : Str) : Bool := decide (x ∈ [a, b])
theorem inA_b2F {K : PySem.W.Frag} {s a b : Str} {g : G} {Ψ : D → G → Prop} (q : Ψ (dB (in2 s a b)) g) : RD (rInA K false) (dS s) (.tup [dS a, dS b]) g Ψ := inA_2F q
theorem inA_b2T {K : PySem.W.Frag} {s a b : Str} {g : G} {Ψ : D → G → Prop} (q : Ψ (dB (!in2 s a b)) g) : RD (rInA K true) (dS s) (.tup [dS a, dS b]) g Ψ := inA_2T q
def hereB (x : Str) : Bool := decide (x ∈ hereL)
theorem inA_hereF {K : PySem.W.Frag} {mg : Str → Option Value} {s : Str} {g : G} {Ψ : D → G → Prop} (T : Txt K mg) (q : Ψ (dB (hereB s)) g) : RD (rInA K false) (dS s) (.v (.ref (He.ga K "HERE"))) g Ψ := inA_TF (ss := hereL) T.t_HERE q
theorem inA_hereT {K : PySem.W.Frag} {mg : Str → Option Value} {s : Str} {g : G} {Ψ : D → G → Prop} (T : Txt K mg) (q : Ψ (dB (!hereB s)) g) : RD (rInA K true) (dS s) (.v (.ref (He.ga K "HERE"))) g Ψ := inA_TT (ss := hereL) T.t_HERE q
/-! ### labels, the watch of a kind -/
inductive Lab where
  | put (r o : Str)
  | turn (o : Str)
  | mark (r : Str)
  | strike
  | hand (w c : Str)
  deriving DecidableEq
def dLab (n : Nat) : Lab → D
  | .put r o => .tup [dS "put", dS r, dS o]
  | .turn o => .tup [dS "turn", dS "x", dS o]
  | .mark r => .tup [dS "mark", dS r]
  | .strike => .tup [dS "strike", dS "x"]
  | .hand w c => .raw n w c
def handsL (z : Str) : List Lab := (pairsL listWords z).map fun p => .hand p.1 p.2
def labsK : List Lab := [.put "x" "-", .mark "x"] ++ handsL "X"
def labsC (z : Str) : List Lab := [.put "y" "-", .put "z" "-", .put "x" "-", .put "x" "y", .put "x" "z", .turn "-", .turn "y", .turn "z", .mark "y", .strike, .mark "x"] ++ handsL z
theorem labK_eq (n : Nat) : labK n = labsK.map (dLab n) := by
  unfold labK labsK handsL rawsD
  rw [List.map_append, List.map_map]; rfl
theorem labC_eq (z : Str) (n : Nat) : labC z n = (labsC z).map (dLab n) := by
  unfold labC labsC handsL rawsD
  rw [List.map_append, List.map_map]; rfl
/-- a label that a watch with the sorts z may have -/
def okLab (z : Str) : Lab → Prop
  | .hand w c => w ∈ listWords ∧ ∃ a, c = s1 a ∧ a ∈ z.cps.toList
  | _ => True
theorem mem_pairs {ws : List Str} {z : Str} {p : Str × Str} (h : p ∈ pairsL ws z) : p.1 ∈ ws ∧ ∃ a, p.2 = s1 a ∧ a ∈ z.cps.toList := by
  unfold pairsL at h
  simp only [List.mem_flatten, List.mem_map] at h
  obtain ⟨l, ⟨w, hw, rfl⟩, h⟩ := h
  obtain ⟨c, hc, rfl⟩ := List.mem_map.mp h
  exact ⟨hw, c, rfl, hc⟩
theorem okLab_hands {z : Str} {l : Lab} (h : l ∈ handsL z) : okLab z l := by
  obtain ⟨p, hp, rfl⟩ := List.mem_map.mp h
  exact mem_pairs hp
theorem okLab_K {l : Lab} (h : l ∈ labsK) : okLab "X" l := by
  rcases List.mem_append.mp h with h | h
  · simp only [List.mem_cons, List.not_mem_nil, or_false] at h
    rcases h with rfl | rfl <;> trivial
  · exact okLab_hands h
theorem okLab_C {z : Str} {l : Lab} (h : l ∈ labsC z) : okLab z l := by
  rcases List.mem_append.mp h with h | h
  · simp only [List.mem_cons, List.not_mem_nil, or_false] at h
    rcases h with rfl | rfl | rfl | rfl | rfl | rfl | rfl | rfl | rfl | rfl | rfl <;> trivial
  · exact okLab_hands h
abbrev dSk (s : Str × Str) : D := .tup [dS s.1, dS s.2]
noncomputable def outK (b : BookS) (h : Str) : Lab → Str × Str → Option ((Str × Str) × Str)
  | .put _ _, (x, l) => if mayPutB b x = true then some (("plain", l), "") else none
  | .turn _, _ => none
  | .mark _, (x, l) => if x = "plain" ∧ mayMarkB b h l = true then some (("marked", l), "") else none
  | .strike, _ => none
  | .hand w _, (x, l) =>
    if w = "look" then (if x ≠ "marked" then none else match withL b l "X" with
      | none => none
      | some m => some ((x, m), ""))
    else if l = "" then none
    else if w = "do" ∧ (x = "marked" ∨ (x = "plain" ∧ hasB b "again" h = false)) then some (("gone", lackS l "X"), if x = "plain" then "undue" else "")
    else some ((x, lackS l "X"), "")
def dOutK : Option ((Str × Str) × Str) → D
  | none => dN
  | some (s, w) => .tup [dSk s, dS w]
noncomputable def R_KindWatch_begin (K : PySem.W.Frag) : RS := pureR (α := BookS × Str) (fun x ds => ds = [dKW K x.1 x.2]) (fun x => dSk ("new", ""))
abbrev N_KindWatch_begin : List Str := ["self"]
theorem sc_KindWatch_begin : FnScope N_KindWatch_begin ["self"] (defScope (inClass (top 32) 0)) := ⟨rfl, rfl, rfl, by decide +kernel, rfl, by decide +kernel, by decide +kernel⟩
theorem ok_KindWatch_begin {f : Addr} {fd : FuncData} (T : Txt K mg)  (F : FunD K "begin" "KindWatch.begin" (defArgs (inClass (top 32) 0)) (defBody (inClass (top 32) 0)) (defScope (inClass (top 32) 0)) [] [] f fd) : FnOk P w K mg base CX0 1 f fd ["self"] (spR (R_KindWatch_begin K)) := by
  refine okW F sc_KindWatch_begin (by rintro ds g Q ⟨_, x, rfl, _⟩; rfl) fun cdv A outer s H E hr => ⟨_, PSs.nox (pss_one (ps_ret (pe_tup (pa_cons pe_str (pa_cons pe_str pa_nil))))), ?_⟩
  rintro ds g Q ⟨rfl, ⟨b, h⟩, rfl, hQ⟩
  dsimp only
  walk_at "auto"
  exact hQ
noncomputable def R_KindWatch_outcome (K : PySem.W.Frag) (n : Nat) : RS := pureR (α := BookS × Str × Lab × Str × Str) (fun x ds => ds = [dKW K x.1 x.2.1, dLab n x.2.2.1, dSk x.2.2.2] ∧ WfB x.1.kk x.1.cc ∧ x.2.1.length ≤ 100 ∧ okLab "X" x.2.2.1 ∧ isL x.2.2.2.2 ∧ x.2.2.1 ∈ labsK) (fun x => dOutK (outK x.1 x.2.1 x.2.2.1 x.2.2.2))
theorem isL_len {l : Str} (h : isL l) : l.length ≤ 1000000 := by
  rcases h with rfl | ⟨a, rfl⟩ | ⟨a, b, rfl⟩
  · exact (by decide : Str.length "" ≤ 1000000)
  · exact (by show 1 ≤ 1000000; decide)
  · exact (by show 2 ≤ 1000000; decide)
abbrev N_KindWatch_outcome : List Str := ["self", "label", "state", "behind", "x", "letters", "more"]
theorem sc_KindWatch_outcome : FnScope N_KindWatch_outcome ["self", "label", "state"] (defScope (inClass (top 32) 3)) := ⟨rfl, rfl, rfl, by decide +kernel, rfl, by decide +kernel, by decide +kernel⟩
theorem ok_KindWatch_outcome {n : Nat} (h1n : 1 ≤ n) {f : Addr} {fd : FuncData} (T : Txt K mg) (c_KindWatch_may_put : Met P w K mg base CX0 3 (He.ga K "KindWatch") "may_put" ["self", "row"] (spR (R_Watch_may_put K))) (c_KindWatch_may_mark : Met P w K mg base CX0 3 (He.ga K "KindWatch") "may_mark" ["self", "kind", "letters"] (spR (R_Watch_may_mark K))) (c_KindWatch_with_letter : Met P w K mg base CX0 3 (He.ga K "KindWatch") "with_letter" ["self", "letters", "letter"] (spR (R_Watch_with_letter K))) (c_KindWatch_has : Met P w K mg base CX0 3 (He.ga K "KindWatch") "has" ["self", "word", "name"] (spR (R_Watch_has K))) (c_lacking : Lk P w K mg base 1 "lacking") (F : FunD K "outcome" "KindWatch.outcome" (defArgs (inClass (top 32) 3)) (defBody (inClass (top 32) 3)) (defScope (inClass (top 32) 3)) [] [] f fd) : FnN n P w K mg base CX0 4 f fd ["self", "label", "state"] (spR (R_KindWatch_outcome K n)) := by
  refine okN F sc_KindWatch_outcome (by rintro ds g Q ⟨_, x, ⟨rfl, _⟩, _⟩; rfl) fun cdv A outer s H E hr => ⟨_, PSsn.nox (psn_cons (PSn.of (ps_asg (pv 2) (k_tup (K := K) (n := 2) rfl rfl (pgs_cons (pg_name (i := 4) sc_KindWatch_outcome.nd rfl (by first | exact Or.inl rfl | exact Or.inr rfl)) (pgs_cons (pg_name (i := 5) sc_KindWatch_outcome.nd rfl (by first | exact Or.inl rfl | exact Or.inr rfl)) pgs_nil)))))
      (psn_cons (PSn.of (ps_if (pt_cmpR (k_eq (K := K) rfl hr.units) (pe_ix (k_ix (K := K) rfl (hu_of hr)) (pv 1) pe_int (fun _ _ => rfl)) pe_str (nomark _)) (pss_one (ps_ret (pe_ifExp (pt_val (pe_met c_KindWatch_may_put (hr.mono (by decide)) pass0 (pv 0) (pa_cons (pv 4) pa_nil))) (pe_tup (pa_cons (pe_tup (pa_cons pe_str (pa_cons (pv 5) pa_nil))) (pa_cons pe_str pa_nil))) pe_non))) pss_nil))
      (psn_cons (PSn.of (ps_if (pt_cmpR (k_eq (K := K) rfl hr.units) (pe_ix (k_ix (K := K) rfl (hu_of hr)) (pv 1) pe_int (fun _ _ => rfl)) pe_str (nomark _)) (pss_one (ps_ret (pe_ifExp (PW.pt (pw_and (pt_cmpR (k_eq (K := K) rfl hr.units) (pv 4) pe_str (nomark _)) (pw_and1 (pt_val (pe_met c_KindWatch_may_mark (hr.mono (by decide)) pass0 (pv 0) (pa_cons (k_fld (K := K) rfl (pv 0)) (pa_cons (pv 5) pa_nil))))))) (pe_tup (pa_cons (pe_tup (pa_cons pe_str (pa_cons (pv 5) pa_nil))) (pa_cons pe_str pa_nil))) pe_non))) pss_nil))
      (psn_cons (PSn.of (ps_if (pt_cmpR (k_eq (K := K) rfl hr.units) (pe_ix (k_ix (K := K) rfl (hu_of hr)) (pv 1) pe_int (fun _ _ => rfl)) pe_str (nomark _)) (pss_cons (ps_set (i := 6) sc_KindWatch_outcome.nd rfl (by first | exact Or.inl rfl | exact Or.inr rfl) (pe_met c_KindWatch_with_letter (hr.mono (by decide)) pass0 (pv 0) (pa_cons (pv 5) (pa_cons pe_str pa_nil))))
      (pss_one (ps_ret (pe_ifExp (PW.pt (pw_or (pt_cmpR (k_ne (K := K) rfl hr.units) (pv 4) pe_str (nomark _)) (pw_or1 (pt_cmpR op_isNn (pv 6) pe_non (nomark _))))) pe_non (pe_tup (pa_cons (pe_tup (pa_cons (pv 4) (pa_cons (pv 6) pa_nil))) (pa_cons pe_str pa_nil))))))) pss_nil))
      (psn_cons (PSn.of (ps_if (pt_cmpR (k_eq (K := K) rfl hr.units) (pv 5) pe_str (nomark _)) (pss_one (ps_ret pe_non)) pss_nil))
      (psn_cons (psn_set (i := 3) sc_KindWatch_outcome.nd rfl (by first | exact Or.inl rfl | exact Or.inr rfl) (pen_lackC h1n c_lacking (hr.mono (by decide)) rfl pass0 (pv 5) (by decide)))
      (PSsn.of (pss_cons (ps_if (PW.pt (pw_and (pt_cmpR (k_eq (K := K) rfl hr.units) (pe_ix (k_ix (K := K) rfl (hu_of hr)) (pv 1) pe_int (fun _ _ => rfl)) pe_str (nomark _)) (pw_and1 (PW.pt (pw_or (pt_cmpR (k_eq (K := K) rfl hr.units) (pv 4) pe_str (nomark _)) (pw_or1 (PW.pt (pw_and (pt_cmpR (k_eq (K := K) rfl hr.units) (pv 4) pe_str (nomark _)) (pw_and1 (pt_not (pt_val (pe_met c_KindWatch_has (hr.mono (by decide)) pass0 (pv 0) (pa_cons pe_str (pa_cons (k_fld (K := K) rfl (pv 0)) pa_nil)))))))))))))) (pss_one (ps_ret (pe_tup (pa_cons (pe_tup (pa_cons pe_str (pa_cons (pv 3) pa_nil))) (pa_cons (pe_ifExp (pt_cmpR (k_eq (K := K) rfl hr.units) (pv 4) pe_str (nomark _)) pe_str pe_str) pa_nil))))) pss_nil)
      (pss_one (ps_ret (pe_tup (pa_cons (pe_tup (pa_cons (pv 4) (pa_cons (pv 3) pa_nil))) (pa_cons pe_str pa_nil))))))))))))), ?_⟩
  rintro ds g Q ⟨rfl, ⟨b, h, lab, x, l⟩, ⟨rfl, wf, hh, hlab, hl, hmem⟩, hQ⟩
  replace wf : WfB b.kk b.cc := wf
  replace hh : h.length ≤ 100 := hh
  replace hlab : okLab "X" lab := hlab
  replace hl : isL l := hl
  replace hmem : lab ∈ labsK := hmem
  replace hQ : Q (dOutK (outK b h lab (x, l))) [] := hQ
  have hll := isL_len hl
  dsimp only
  cases lab with
  | put r o =>
    dsimp only [dLab]
    walk_at "auto"
    refine ⟨(.kind b h, x), rfl, ?_⟩
    walk_at "auto"
    all_goals (simp_all only [WatchS.b, outK, if_true, Bool.false_eq_true, if_false]; exact hQ)
  | mark r =>
    dsimp only [dLab]
    walk_at "auto"
    · refine ⟨(.kind b h, h, l), ⟨rfl, wf⟩, ?_⟩
      walk_at "auto"
      all_goals (simp_all [WatchS.b, outK]; exact hQ)
    · simp_all [outK]; exact hQ
  | turn o => simp [labsK, handsL] at hmem
  | strike => simp [labsK, handsL] at hmem
  | hand w c =>
    dsimp only [dLab]
    obtain ⟨hw, a, rfl, ha⟩ := hlab
    simp only [listWords, List.mem_cons, List.not_mem_nil, or_false] at hw
    rcases hw with rfl | rfl | rfl
    · walk_at "auto"
      refine ⟨(.kind b h, l, 88), ⟨rfl, hl⟩, ?_⟩
      have hQ2 : Q (dOutK (if x ≠ "marked" then none else match withL b l (s1 88) with
        | none => none
        | some m => some ((x, m), ""))) [] := hQ
      dsimp only [WatchS.b]
      cases hm : withL b l (s1 88) with
      | none =>
        rw [hm] at hQ2
        walk_at "auto"
        all_goals (simp_all; first | exact hQ2 | done)
      | some m =>
        rw [hm] at hQ2
        walk_at "auto"
        all_goals (try (simp_all; done))
        all_goals (simp_all; exact hQ2)
    · walk_at "auto"
      · all_goals (show Q _ []; (try clear T); (try clear F); (try clear hr); (try clear c_ColumnWatch_has); (try clear c_ColumnWatch_fitting); (try clear c_ColumnWatch_may_put); (try clear c_ColumnWatch_may_mark); (try clear c_ColumnWatch_may_refer); (try clear c_ColumnWatch_with_letter); (try clear c_Book___contains__); (try clear c_KindWatch_has); (try clear c_KindWatch_may_put); (try clear c_KindWatch_may_mark); (try clear c_KindWatch_with_letter); (try clear c_lacking); (try clear c_ColumnWatch_put_behind); (try clear c_ColumnWatch_turned); (try clear c_ColumnWatch_looked); (try clear c_ColumnWatch_done_behind); (try clear c_ColumnWatch_marked_behind); (simp_all [WatchS.b, sgLab, sgRow, sgSt, sgLet, outK] <;> exact hQ))
      · all_goals (show Q _ []; (try clear T); (try clear F); (try clear hr); (try clear c_ColumnWatch_has); (try clear c_ColumnWatch_fitting); (try clear c_ColumnWatch_may_put); (try clear c_ColumnWatch_may_mark); (try clear c_ColumnWatch_may_refer); (try clear c_ColumnWatch_with_letter); (try clear c_Book___contains__); (try clear c_KindWatch_has); (try clear c_KindWatch_may_put); (try clear c_KindWatch_may_mark); (try clear c_KindWatch_with_letter); (try clear c_lacking); (try clear c_ColumnWatch_put_behind); (try clear c_ColumnWatch_turned); (try clear c_ColumnWatch_looked); (try clear c_ColumnWatch_done_behind); (try clear c_ColumnWatch_marked_behind); (simp_all [WatchS.b, sgLab, sgRow, sgSt, sgLet, outK] <;> exact hQ))
      · all_goals (show Q _ []; (try clear T); (try clear F); (try clear hr); (try clear c_ColumnWatch_has); (try clear c_ColumnWatch_fitting); (try clear c_ColumnWatch_may_put); (try clear c_ColumnWatch_may_mark); (try clear c_ColumnWatch_may_refer); (try clear c_ColumnWatch_with_letter); (try clear c_Book___contains__); (try clear c_KindWatch_has); (try clear c_KindWatch_may_put); (try clear c_KindWatch_may_mark); (try clear c_KindWatch_with_letter); (try clear c_lacking); (try clear c_ColumnWatch_put_behind); (try clear c_ColumnWatch_turned); (try clear c_ColumnWatch_looked); (try clear c_ColumnWatch_done_behind); (try clear c_ColumnWatch_marked_behind); (simp_all [WatchS.b, sgLab, sgRow, sgSt, sgLet, outK] <;> exact hQ))
      · refine ⟨(.kind b h, "again", h), ⟨rfl, by show Str.length "again" ≤ 100; decide, hh⟩, ?_⟩
        walk_at "auto"
        all_goals (show Q _ []; (try clear T); (try clear F); (try clear hr); (try clear c_ColumnWatch_has); (try clear c_ColumnWatch_fitting); (try clear c_ColumnWatch_may_put); (try clear c_ColumnWatch_may_mark); (try clear c_ColumnWatch_may_refer); (try clear c_ColumnWatch_with_letter); (try clear c_Book___contains__); (try clear c_KindWatch_has); (try clear c_KindWatch_may_put); (try clear c_KindWatch_may_mark); (try clear c_KindWatch_with_letter); (try clear c_lacking); (try clear c_ColumnWatch_put_behind); (try clear c_ColumnWatch_turned); (try clear c_ColumnWatch_looked); (try clear c_ColumnWatch_done_behind); (try clear c_ColumnWatch_marked_behind); (simp_all [WatchS.b, sgLab, sgRow, sgSt, sgLet, outK] <;> exact hQ))
      · all_goals (show Q _ []; (try clear T); (try clear F); (try clear hr); (try clear c_ColumnWatch_has); (try clear c_ColumnWatch_fitting); (try clear c_ColumnWatch_may_put); (try clear c_ColumnWatch_may_mark); (try clear c_ColumnWatch_may_refer); (try clear c_ColumnWatch_with_letter); (try clear c_Book___contains__); (try clear c_KindWatch_has); (try clear c_KindWatch_may_put); (try clear c_KindWatch_may_mark); (try clear c_KindWatch_with_letter); (try clear c_lacking); (try clear c_ColumnWatch_put_behind); (try clear c_ColumnWatch_turned); (try clear c_ColumnWatch_looked); (try clear c_ColumnWatch_done_behind); (try clear c_ColumnWatch_marked_behind); (simp_all [WatchS.b, sgLab, sgRow, sgSt, sgLet, outK] <;> exact hQ))
    · walk_at "auto"
      all_goals (show Q _ []; (try clear T); (try clear F); (try clear hr); (try clear c_ColumnWatch_has); (try clear c_ColumnWatch_fitting); (try clear c_ColumnWatch_may_put); (try clear c_ColumnWatch_may_mark); (try clear c_ColumnWatch_may_refer); (try clear c_ColumnWatch_with_letter); (try clear c_Book___contains__); (try clear c_KindWatch_has); (try clear c_KindWatch_may_put); (try clear c_KindWatch_may_mark); (try clear c_KindWatch_with_letter); (try clear c_lacking); (try clear c_ColumnWatch_put_behind); (try clear c_ColumnWatch_turned); (try clear c_ColumnWatch_looked); (try clear c_ColumnWatch_done_behind); (try clear c_ColumnWatch_marked_behind); (simp_all [WatchS.b, sgLab, sgRow, sgSt, sgLet, outK] <;> exact hQ))
theorem isN_dOpt {K : PySem.W.Frag} {o : Option Col} : (dOpt K o).isN = decide (o = none) := by
  cases o with
  | none => rfl
  | some c => simp [D.isN]
end
end Ls
set_option Elab.async false
set_option linter.all false
set_option maxRecDepth 100000
set_option maxHeartbeats 4000000
set_option autoImplicit false
namespace Ls
open PySem PySem.Spec PyProof.Rows L2 Dl
local macro_rules | `(tactic| walk_at "nof") => `(tactic| first
  | with_reducible exact Txt.n_Column_word (by assumption)
  | with_reducible exact Txt.n_Column_home (by assumption)
  | with_reducible exact Txt.n_Column_goal (by assumption)
  | with_reducible exact Txt.n_Column_rule (by assumption)
  | with_reducible exact Txt.n_Book_open_kinds (by assumption)
  | with_reducible exact Txt.n_Book_column_rows (by assumption)
  | with_reducible exact Txt.n_Book_column_table (by assumption)
  | with_reducible exact Txt.n_Book_all_checks (by assumption)
  | with_reducible exact Txt.n_Book_own_checks (by assumption)
  | with_reducible exact Txt.n_Watch_law_book (by assumption)
  | with_reducible exact Txt.n_Watch_home (by assumption)
  | with_reducible exact Txt.n_Watch_can_mark (by assumption)
  | with_reducible exact Txt.n_Watch_sorts (by assumption)
  | with_reducible exact Txt.n_KindWatch_law_book (by assumption)
  | with_reducible exact Txt.n_KindWatch_home (by assumption)
  | with_reducible exact Txt.n_KindWatch_can_mark (by assumption)
  | with_reducible exact Txt.n_KindWatch_sorts (by assumption)
  | with_reducible exact Txt.n_ColumnWatch_law_book (by assumption)
  | with_reducible exact Txt.n_ColumnWatch_home (by assumption)
  | with_reducible exact Txt.n_ColumnWatch_can_mark (by assumption)
  | with_reducible exact Txt.n_ColumnWatch_sorts (by assumption)
  | with_reducible exact Txt.n_ColumnWatch_by (by assumption)
  | with_reducible exact Txt.n_ColumnWatch_goal (by assumption)
  | with_reducible exact Txt.n_ColumnWatch_other_column (by assumption)
  | with_reducible exact Txt.n_Weaver_watch (by assumption)
  | with_reducible exact Txt.n_Weaver_way (by assumption)
  | with_reducible exact Txt.n_Weaver_made (by assumption)
  | with_reducible exact Txt.n_Weaver_held (by assumption)
  | with_reducible exact Txt.n_Weaver_chains (by assumption)
  | with_reducible exact Txt.n_Weaver_unused (by assumption))
local macro_rules | `(tactic| walk_at "cls") => `(tactic| first
  | with_reducible exact Txt.cl_Column (by assumption)
  | with_reducible exact Txt.cl_Book (by assumption)
  | with_reducible exact Txt.cl_Watch (by assumption)
  | with_reducible exact Txt.cl_KindWatch (by assumption)
  | with_reducible exact Txt.cl_ColumnWatch (by assumption)
  | with_reducible exact Txt.cl_Weaver (by assumption))
local macro_rules | `(tactic| walk_at "dlf") => `(tactic| first
  | with_reducible exact dlf_Column_word ..
  | with_reducible exact dlf_Column_home ..
  | with_reducible exact dlf_Column_goal ..
  | with_reducible exact dlf_Column_rule ..
  | with_reducible exact dlf_Book_open_kinds ..
  | with_reducible exact dlf_Book_column_rows ..
  | with_reducible exact dlf_Book_column_table ..
  | with_reducible exact dlf_Book_all_checks ..
  | with_reducible exact dlf_Book_own_checks ..
  | with_reducible exact dlf_Watch_law_book ..
  | with_reducible exact dlf_Watch_home ..
  | with_reducible exact dlf_Watch_can_mark ..
  | with_reducible exact dlf_Watch_sorts ..
  | with_reducible exact dlf_KindWatch_law_book ..
  | with_reducible exact dlf_KindWatch_home ..
  | with_reducible exact dlf_KindWatch_can_mark ..
  | with_reducible exact dlf_KindWatch_sorts ..
  | with_reducible exact dlf_ColumnWatch_law_book ..
  | with_reducible exact dlf_ColumnWatch_home ..
  | with_reducible exact dlf_ColumnWatch_can_mark ..
  | with_reducible exact dlf_ColumnWatch_sorts ..
  | with_reducible exact dlf_ColumnWatch_by ..
  | with_reducible exact dlf_ColumnWatch_goal ..
  | with_reducible exact dlf_ColumnWatch_other_column ..
  | with_reducible exact dlf_Weaver_watch ..
  | with_reducible exact dlf_Weaver_way ..
  | with_reducible exact dlf_Weaver_made ..
  | with_reducible exact dlf_Weaver_held ..
  | with_reducible exact dlf_Weaver_chains ..
  | with_reducible exact dlf_Weaver_unused ..)
local macro_rules | `(tactic| walk_at "len") => `(tactic| first | decide | (simp; done) | omega | (simp; omega) | (simp only [PySem.Str.length_append, sizeLine_eq, len_empty, len_space]; omega))
local macro_rules | `(tactic| walk_at "go1") => `(tactic| first
  | with_reducible refine ws_seq ?_
  | with_reducible refine ws_set ?_
  | with_reducible refine ws_ret ?_
  | with_reducible refine ws_if ?_
  | with_reducible refine ws_drop ?_
  | with_reducible refine ws_next ?_
  | with_reducible refine ws_retN ?_
  | with_reducible refine ws_cont ?_
  | with_reducible refine ws_brk ?_
  | with_reducible refine ws_asg ?_
  | with_reducible refine ye_var (by with_unfolding_all rfl) ?_
  | with_reducible refine ye_c ?_
  | with_reducible refine ye_op ?_
  | with_reducible refine ye_cb ?_
  | with_reducible refine ye_bm ?_
  | with_reducible refine ye_m1 ?_
  | with_reducible refine ye_if ?_
  | with_reducible refine ye_andV ?_
  | with_reducible refine ye_orV ?_
  | with_reducible refine ye_notV ?_
  | with_reducible refine ye_join ?_
  | with_reducible refine ye_fmt ?_
  | with_reducible refine ye_fld ?_
  | with_reducible refine ye_items ?_
  | with_reducible refine ye_sl ?_
  | with_reducible refine ye_tup ?_
  | with_reducible refine yo_none ?_
  | with_reducible refine yo_some ?_
  | with_reducible refine yt_B ?_
  | with_reducible refine yt_test ?_
  | with_reducible refine yt_and ?_
  | with_reducible refine yt_or ?_
  | with_reducible refine yt_not ?_
  | with_reducible refine yt_yes ?_
  | with_reducible refine ya_nil ?_
  | with_reducible refine ya_cons ?_
  | with_reducible refine ya_starA ?_
  | with_reducible refine yj_nil ?_
  | with_reducible refine yj_cons ?_
  | with_reducible refine wg_name ?_
  | with_reducible refine eqA_S ?_
  | with_reducible refine neA_S ?_
  | with_reducible refine eqA_I ?_
  | with_reducible refine neA_I ?_
  | with_reducible refine addA_I ?_
  | with_reducible refine rd_I0 ?_
  | with_reducible refine isi_SS ?_
  | with_reducible refine rc_strS ?_
  | with_reducible refine rd_isN ?_
  | with_reducible refine rd_notN ?_
  | with_reducible refine chain_I ?_
  | with_reducible refine rc_lenS (by walk_at "len") ?_
  | with_reducible refine inA_S ?_
  | with_reducible refine ws_fld1 (by with_unfolding_all rfl) (by walk_at "cls") (by walk_at "nof") (by decide +kernel) (by decide +kernel) ?_
  | with_reducible refine ⟨_, _, _, _, OV.im _ _ _, by walk_at "cls", by walk_at "nof", by walk_at "dlf", ?_⟩
  | with_reducible refine ⟨_, _, _, _, OV.mu _ _ _ _ (List.mem_singleton.mpr rfl), by walk_at "cls", by walk_at "nof", by with_unfolding_all rfl, ?_⟩
  | with_reducible refine ⟨(rfl : ([_] : G) = _), ?_⟩
  | with_reducible refine ⟨_, _, _, rfl, rfl, rfl, ?_⟩
  | refine iteT ?_
  | refine iteF ?_
  | with_reducible refine ⟨_, rfl, ?_⟩
  | with_reducible refine ⟨(by walk_at "len" : List.length _ ≤ _), ?_⟩
  | with_reducible refine ⟨(by walk_at "len" : PySem.Str.length _ ≤ _), ?_⟩)
local macro_rules | `(tactic| walk_at "go") => `(tactic| repeat walk_at "go1")
local macro_rules | `(tactic| walk_at "end") => `(tactic| first | rfl | exact ⟨rfl, rfl⟩ | exact ⟨_, rfl, rfl⟩ | exact ⟨_, _, rfl, rfl⟩)
local macro_rules | `(tactic| walk_at "auto1") => `(tactic| first | walk_at "go1" | walk_at "own" | refine iteT' (by decide +kernel) ?_ | refine iteF' (by decide +kernel) ?_ | refine iteB (fun h => ?_) (fun h => ?_))
local macro_rules | `(tactic| walk_at "auto") => `(tactic| repeat' walk_at "auto1")
local macro_rules | `(tactic| walk_at "own") => `(tactic| first
  | with_reducible refine rd_bookF ?_
  | with_reducible refine rd_bookT ?_
  | with_reducible refine ⟨_, _, OV.im _ _ _, by decide +kernel, ?_⟩
  | with_reducible refine ixA_L (.t _) (by with_unfolding_all rfl) ?_
  | with_reducible refine ixA_L (.r _ _ _) (by with_unfolding_all rfl) ?_
  | with_reducible refine wg_tupN (by repeat constructor) ⟨_, rfl, rfl, rfl, ?_⟩
  | with_reducible refine ye_lackC ?_
  | with_reducible refine inA_b2F ?_
  | with_reducible refine inA_b2T ?_
  | with_reducible refine inA_SF ?_
  | with_reducible refine inA_ST ?_
  | with_reducible refine inA_hereF (by assumption) ?_
  | with_reducible refine inA_hereT (by assumption) ?_
  | with_reducible refine ye_disp ?_
  | with_reducible refine yp_cons ?_
  | with_reducible refine yp_nil ?_
  | refine ye_methQ ?_)
section
variable {P : Program} {w : World} {K : PySem.W.Frag} {mg : Str → Option Value} {base : Heap}
/-! ### the watch of a column -/
structure St5 where
  x : Str
  p : Str
  y : Str
  z : Str
  l : Str
  deriving DecidableEq
abbrev dSt (s : St5) : D := .tup [dS s.x, dS s.p, dS s.y, dS s.z, dS s.l]
structure WfC (b : BookS) (c : Col) : Prop extends WfB b.kk b.cc where
  mem : c ∈ b.cc
theorem WfC.word {b : BookS} {c : Col} (w : WfC b c) : c.word.length ≤ 100 := by
  have := w.names.len c.word (List.mem_append_right _ (List.mem_map.mpr ⟨c, w.mem, rfl⟩)); omega
theorem WfC.homeL {b : BookS} {c : Col} (w : WfC b c) : c.home.length ≤ 100 := by
  have := w.names.len c.home (List.mem_append_left _ (w.home c w.mem)); omega
theorem WfC.goalL {b : BookS} {c : Col} (w : WfC b c) : c.goal.length ≤ 100 := by
  have := w.names.len c.goal (List.mem_append_left _ (w.goal c w.mem)); omega
def mayRefer (b : BookS) (c : Col) (word owner : Str) (s : St5) : Bool := if owner = "y" then decide (s.y = "plain") || (decide (s.y = "marked") && !hasB b word c.word) else decide (owner = "-") || decide (s.z = "plain")
def putBehind (b : BookS) (c : Col) (row owner : Str) (s : St5) : Option St5 :=
  if row = "x" then (if mayPutB b s.x = true ∧ mayRefer b c "put" owner s = true then some { s with x := "plain", p := owner } else none)
  else if row = "y" then (if mayPutB b s.y = true then some { s with y := "plain" } else none)
  else if s.z = "new" then some { s with z := "plain" } else none
def turnedS (b : BookS) (c : Col) (owner : Str) (s : St5) : Option St5 :=
  if hereB s.x = false ∨ owner = s.p ∨ mayRefer b c "turn" owner s = false then none
  else if s.x ≠ "plain" ∧ hasB b "hold" c.word = true then none
  else if s.p = "y" ∧ in2 s.y "marked" "gone" = true ∧ hasB b "keep" c.word = true then none
  else some { s with p := owner }
noncomputable def markedS (b : BookS) (c : Col) (strike : Bool) (row : Str) (s : St5) : Option St5 :=
  if row = "y" then (if s.y = "plain" ∧ mayMarkB b c.goal s.l = true then some { s with y := "marked" } else none)
  else if (if strike = true then openB b c.home = true ∧ in2 s.x "plain" "marked" = true else s.x = "plain" ∧ otherC b c ≠ none ∧ (s.l = "" ∨ loneB b = false)) then some { s with x := "other" } else none
def fitting (b : BookS) (c : Col) (ch : Str) (s : St5) : Bool :=
  if ch = "X" then in2 s.x "marked" "other"
  else if ch = "S" then decide (s.x = "plain" ∧ s.p = "y" ∧ s.y = "marked")
  else if ch = "C" then decide (hereB s.x = true ∧ s.p = "y" ∧ s.y = "marked")
  else if s.y ≠ "marked" ∨ (s.p = "y" ∧ hereB s.x = true ∧ hasB b "bare" c.goal = true) then false
  else !decide (s.p = "y" ∧ s.x = "plain" ∧ hasB b "calm" c.goal = true)
def lookedS (b : BookS) (c : Col) (ch : Str) (s : St5) : Option St5 := match withL b s.l ch with
  | none => none
  | some m => if fitting b c ch s = true then some { s with l := m } else none
def nameOf (c : Col) (ch : Str) : Str := if ch = "S" ∨ ch = "C" then c.word else if ch = "X" then c.home else c.goal
def doneS (b : BookS) (c : Col) (ch : Str) (s : St5) : St5 × Str :=
  if hasB b "again" (nameOf c ch) = true ∧ fitting b c ch s = false then (s, "")
  else if ch = "S" then ({ s with x := if s.x = "plain" then "marked" else s.x }, "")
  else if ch = "Y" then ({ s with y := if in2 s.y "plain" "marked" = true then "gone" else s.y }, "")
  else if hereB s.x = false ∨ (ch = "C" ∧ s.p = "-") then (s, "")
  else if ch = "C" then ({ s with p := "-" }, if s.p = "z" ∨ s.y = "plain" then "spoilt" else "")
  else ({ s with x := "gone", p := "-" }, if s.x = "marked" ∧ ¬ (s.p = "y" ∧ in2 s.y "marked" "gone" = true) then "unjust" else "")
def dOptSt : Option St5 → D
  | none => dN
  | some s => dSt s
abbrev dPair (p : St5 × Str) : D := .tup [dSt p.1, dS p.2]
def dOutC : Option (St5 × Str) → D
  | none => dN
  | some p => dPair p
def hasL (ch l : Str) : Bool := match ch.cps.toList with
  | [a] => decide (a ∈ l.cps.toList)
  | _ => false
noncomputable def outC (b : BookS) (c : Col) : Lab → St5 → Option (St5 × Str)
  | .put r o, s => (putBehind b c r o s).map (·, "")
  | .turn o, s => (turnedS b c o s).map (·, "")
  | .mark r, s => (markedS b c false r s).map (·, "")
  | .strike, s => (markedS b c true "x" s).map (·, "")
  | .hand w ch, s =>
    if w = "look" then (lookedS b c ch s).map (·, "")
    else if hasL ch s.l = false then none
    else if w = "stop" then some ({ s with l := lackS s.l ch }, "")
    else some (doneS b c ch { s with l := lackS s.l ch })
noncomputable def R_ColumnWatch_begin (K : PySem.W.Frag) : RS := pureR (α := BookS × Col) (fun x ds => ds = [dCW K x.1 x.2]) (fun x => dSt ⟨"new", "-", "new", "new", ""⟩)
abbrev N_ColumnWatch_begin : List Str := ["self"]
theorem sc_ColumnWatch_begin : FnScope N_ColumnWatch_begin ["self"] (defScope (inClass (top 33) 1)) := ⟨rfl, rfl, rfl, by decide +kernel, rfl, by decide +kernel, by decide +kernel⟩
theorem ok_ColumnWatch_begin {f : Addr} {fd : FuncData} (T : Txt K mg)  (F : FunD K "begin" "ColumnWatch.begin" (defArgs (inClass (top 33) 1)) (defBody (inClass (top 33) 1)) (defScope (inClass (top 33) 1)) [] [] f fd) : FnOk P w K mg base CX0 1 f fd ["self"] (spR (R_ColumnWatch_begin K)) := by
  refine okW F sc_ColumnWatch_begin (by rintro ds g Q ⟨_, x, rfl, _⟩; rfl) fun cdv A outer s H E hr => ⟨_, PSs.nox (pss_one (ps_ret (pe_tup (pa_cons pe_str (pa_cons pe_str (pa_cons pe_str (pa_cons pe_str (pa_cons pe_str pa_nil)))))))), ?_⟩
  rintro ds g Q ⟨rfl, ⟨b, h⟩, rfl, hQ⟩
  dsimp only
  walk_at "auto"
  exact hQ
noncomputable def R_ColumnWatch_may_refer (K : PySem.W.Frag) : RS := pureR (α := BookS × Col × Str × Str × St5) (fun x ds => ds = [dCW K x.1 x.2.1, dS x.2.2.1, dS x.2.2.2.1, dSt x.2.2.2.2] ∧ WfC x.1 x.2.1 ∧ x.2.2.1.length ≤ 100) (fun x => dB (mayRefer x.1 x.2.1 x.2.2.1 x.2.2.2.1 x.2.2.2.2))
abbrev N_ColumnWatch_may_refer : List Str := ["self", "word", "owner", "state"]
theorem sc_ColumnWatch_may_refer : FnScope N_ColumnWatch_may_refer ["self", "word", "owner", "state"] (defScope (inClass (top 33) 6)) := ⟨rfl, rfl, rfl, by decide +kernel, rfl, by decide +kernel, by decide +kernel⟩
theorem ok_ColumnWatch_may_refer {f : Addr} {fd : FuncData} (T : Txt K mg) (c_ColumnWatch_has : Met P w K mg base CX0 3 (He.ga K "ColumnWatch") "has" ["self", "word", "name"] (spR (R_Watch_has K))) (F : FunD K "may_refer" "ColumnWatch.may_refer" (defArgs (inClass (top 33) 6)) (defBody (inClass (top 33) 6)) (defScope (inClass (top 33) 6)) [] [] f fd) : FnOk P w K mg base CX0 4 f fd ["self", "word", "owner", "state"] (spR (R_ColumnWatch_may_refer K)) := by
  refine okW F sc_ColumnWatch_may_refer (by rintro ds g Q ⟨_, x, ⟨rfl, _⟩, _⟩; rfl) fun cdv A outer s H E hr => ⟨_, PSs.nox (pss_cons (ps_if (pt_cmpR (k_eq (K := K) rfl hr.units) (pv 2) pe_str (nomark _)) (pss_one (ps_ret (pe_or (pe_cmpR (k_eq (K := K) rfl hr.units) (pe_ix (k_ix (K := K) rfl (hu_of hr)) (pv 3) pe_int (fun _ _ => rfl)) pe_str (nomark _)) (pe_one (pe_and (pe_cmpR (k_eq (K := K) rfl hr.units) (pe_ix (k_ix (K := K) rfl (hu_of hr)) (pv 3) pe_int (fun _ _ => rfl)) pe_str (nomark _)) (pe_one (pe_not (pe_met c_ColumnWatch_has (hr.mono (by decide)) pass0 (pv 0) (pa_cons (pv 1) (pa_cons (k_fld (K := K) rfl (k_fld (K := K) rfl (pv 0))) pa_nil)))))))))) pss_nil)
      (pss_one (ps_ret (pe_or (pe_cmpR (k_eq (K := K) rfl hr.units) (pv 2) pe_str (nomark _)) (pe_one (pe_cmpR (k_eq (K := K) rfl hr.units) (pe_ix (k_ix (K := K) rfl (hu_of hr)) (pv 3) pe_int (fun _ _ => rfl)) pe_str (nomark _))))))), ?_⟩
  rintro ds g Q ⟨rfl, ⟨b, c, word, owner, ⟨x, p, y, z, l⟩⟩, ⟨rfl, wf, hw⟩, hQ⟩
  replace wf : WfC b c := wf
  replace hw : word.length ≤ 100 := hw
  replace hQ : Q (dB (mayRefer b c word owner ⟨x, p, y, z, l⟩)) [] := hQ
  dsimp only
  walk_at "auto"
  · all_goals (show Q _ []; (try clear T); (try clear F); (try clear hr); (try clear c_ColumnWatch_has); (try clear c_ColumnWatch_fitting); (try clear c_ColumnWatch_may_put); (try clear c_ColumnWatch_may_mark); (try clear c_ColumnWatch_may_refer); (try clear c_ColumnWatch_with_letter); (try clear c_Book___contains__); (try clear c_KindWatch_has); (try clear c_KindWatch_may_put); (try clear c_KindWatch_may_mark); (try clear c_KindWatch_with_letter); (try clear c_lacking); (try clear c_ColumnWatch_put_behind); (try clear c_ColumnWatch_turned); (try clear c_ColumnWatch_looked); (try clear c_ColumnWatch_done_behind); (try clear c_ColumnWatch_marked_behind); (simp_all [WatchS.b, sgLab, sgRow, sgSt, sgLet, mayRefer] <;> exact hQ))
  · refine ⟨(.col b c, word, c.word), ⟨rfl, hw, wf.word⟩, ?_⟩
    walk_at "auto"
    all_goals (show Q _ []; (try clear T); (try clear F); (try clear hr); (try clear c_ColumnWatch_has); (try clear c_ColumnWatch_fitting); (try clear c_ColumnWatch_may_put); (try clear c_ColumnWatch_may_mark); (try clear c_ColumnWatch_may_refer); (try clear c_ColumnWatch_with_letter); (try clear c_Book___contains__); (try clear c_KindWatch_has); (try clear c_KindWatch_may_put); (try clear c_KindWatch_may_mark); (try clear c_KindWatch_with_letter); (try clear c_lacking); (try clear c_ColumnWatch_put_behind); (try clear c_ColumnWatch_turned); (try clear c_ColumnWatch_looked); (try clear c_ColumnWatch_done_behind); (try clear c_ColumnWatch_marked_behind); (simp_all [WatchS.b, sgLab, sgRow, sgSt, sgLet, mayRefer] <;> exact hQ))
  · all_goals (show Q _ []; (try clear T); (try clear F); (try clear hr); (try clear c_ColumnWatch_has); (try clear c_ColumnWatch_fitting); (try clear c_ColumnWatch_may_put); (try clear c_ColumnWatch_may_mark); (try clear c_ColumnWatch_may_refer); (try clear c_ColumnWatch_with_letter); (try clear c_Book___contains__); (try clear c_KindWatch_has); (try clear c_KindWatch_may_put); (try clear c_KindWatch_may_mark); (try clear c_KindWatch_with_letter); (try clear c_lacking); (try clear c_ColumnWatch_put_behind); (try clear c_ColumnWatch_turned); (try clear c_ColumnWatch_looked); (try clear c_ColumnWatch_done_behind); (try clear c_ColumnWatch_marked_behind); (simp_all [WatchS.b, sgLab, sgRow, sgSt, sgLet, mayRefer] <;> exact hQ))
  · all_goals (show Q _ []; (try clear T); (try clear F); (try clear hr); (try clear c_ColumnWatch_has); (try clear c_ColumnWatch_fitting); (try clear c_ColumnWatch_may_put); (try clear c_ColumnWatch_may_mark); (try clear c_ColumnWatch_may_refer); (try clear c_ColumnWatch_with_letter); (try clear c_Book___contains__); (try clear c_KindWatch_has); (try clear c_KindWatch_may_put); (try clear c_KindWatch_may_mark); (try clear c_KindWatch_with_letter); (try clear c_lacking); (try clear c_ColumnWatch_put_behind); (try clear c_ColumnWatch_turned); (try clear c_ColumnWatch_looked); (try clear c_ColumnWatch_done_behind); (try clear c_ColumnWatch_marked_behind); (simp_all [WatchS.b, sgLab, sgRow, sgSt, sgLet, mayRefer] <;> exact hQ))
  · all_goals (show Q _ []; (try clear T); (try clear F); (try clear hr); (try clear c_ColumnWatch_has); (try clear c_ColumnWatch_fitting); (try clear c_ColumnWatch_may_put); (try clear c_ColumnWatch_may_mark); (try clear c_ColumnWatch_may_refer); (try clear c_ColumnWatch_with_letter); (try clear c_Book___contains__); (try clear c_KindWatch_has); (try clear c_KindWatch_may_put); (try clear c_KindWatch_may_mark); (try clear c_KindWatch_with_letter); (try clear c_lacking); (try clear c_ColumnWatch_put_behind); (try clear c_ColumnWatch_turned); (try clear c_ColumnWatch_looked); (try clear c_ColumnWatch_done_behind); (try clear c_ColumnWatch_marked_behind); (simp_all [WatchS.b, sgLab, sgRow, sgSt, sgLet, mayRefer] <;> exact hQ))
noncomputable def R_ColumnWatch_put_behind (K : PySem.W.Frag) : RS := pureR (α := BookS × Col × Str × Str × St5) (fun x ds => ds = [dCW K x.1 x.2.1, dS x.2.2.1, dS x.2.2.2.1, dSt x.2.2.2.2] ∧ WfC x.1 x.2.1) (fun x => dOptSt (putBehind x.1 x.2.1 x.2.2.1 x.2.2.2.1 x.2.2.2.2))
abbrev N_ColumnWatch_put_behind : List Str := ["self", "row", "owner", "state", "x", "present", "y", "z", "letters"]
theorem sc_ColumnWatch_put_behind : FnScope N_ColumnWatch_put_behind ["self", "row", "owner", "state"] (defScope (inClass (top 33) 7)) := ⟨rfl, rfl, rfl, by decide +kernel, rfl, by decide +kernel, by decide +kernel⟩
theorem ok_ColumnWatch_put_behind {f : Addr} {fd : FuncData} (T : Txt K mg) (c_ColumnWatch_may_put : Met P w K mg base CX0 3 (He.ga K "ColumnWatch") "may_put" ["self", "row"] (spR (R_Watch_may_put K))) (c_ColumnWatch_may_refer : Met P w K mg base CX0 4 (He.ga K "ColumnWatch") "may_refer" ["self", "word", "owner", "state"] (spR (R_ColumnWatch_may_refer K))) (F : FunD K "put_behind" "ColumnWatch.put_behind" (defArgs (inClass (top 33) 7)) (defBody (inClass (top 33) 7)) (defScope (inClass (top 33) 7)) [] [] f fd) : FnOk P w K mg base CX0 5 f fd ["self", "row", "owner", "state"] (spR (R_ColumnWatch_put_behind K)) := by
  refine okW F sc_ColumnWatch_put_behind (by rintro ds g Q ⟨_, x, ⟨rfl, _⟩, _⟩; rfl) fun cdv A outer s H E hr => ⟨_, PSs.nox (pss_cons (ps_asg (pv 3) (k_tup (K := K) (n := 5) rfl rfl (pgs_cons (pg_name (i := 4) sc_ColumnWatch_put_behind.nd rfl (by first | exact Or.inl rfl | exact Or.inr rfl)) (pgs_cons (pg_name (i := 5) sc_ColumnWatch_put_behind.nd rfl (by first | exact Or.inl rfl | exact Or.inr rfl)) (pgs_cons (pg_name (i := 6) sc_ColumnWatch_put_behind.nd rfl (by first | exact Or.inl rfl | exact Or.inr rfl)) (pgs_cons (pg_name (i := 7) sc_ColumnWatch_put_behind.nd rfl (by first | exact Or.inl rfl | exact Or.inr rfl)) (pgs_cons (pg_name (i := 8) sc_ColumnWatch_put_behind.nd rfl (by first | exact Or.inl rfl | exact Or.inr rfl)) pgs_nil)))))))
      (pss_cons (ps_if (pt_cmpR (k_eq (K := K) rfl hr.units) (pv 1) pe_str (nomark _)) (pss_one (ps_ret (pe_ifExp (PW.pt (pw_and (pt_val (pe_met c_ColumnWatch_may_put (hr.mono (by decide)) pass0 (pv 0) (pa_cons (pv 4) pa_nil))) (pw_and1 (pt_val (pe_met c_ColumnWatch_may_refer (hr.mono (by decide)) pass0 (pv 0) (pa_cons pe_str (pa_cons (pv 2) (pa_cons (pv 3) pa_nil)))))))) (pe_tup (pa_cons pe_str (pa_cons (pv 2) (pa_cons (pv 6) (pa_cons (pv 7) (pa_cons (pv 8) pa_nil)))))) pe_non))) pss_nil)
      (pss_cons (ps_if (pt_cmpR (k_eq (K := K) rfl hr.units) (pv 1) pe_str (nomark _)) (pss_one (ps_ret (pe_ifExp (pt_val (pe_met c_ColumnWatch_may_put (hr.mono (by decide)) pass0 (pv 0) (pa_cons (pv 6) pa_nil))) (pe_tup (pa_cons (pv 4) (pa_cons (pv 5) (pa_cons pe_str (pa_cons (pv 7) (pa_cons (pv 8) pa_nil)))))) pe_non))) pss_nil)
      (pss_one (ps_ret (pe_ifExp (pt_cmpR (k_eq (K := K) rfl hr.units) (pv 7) pe_str (nomark _)) (pe_tup (pa_cons (pv 4) (pa_cons (pv 5) (pa_cons (pv 6) (pa_cons pe_str (pa_cons (pv 8) pa_nil)))))) pe_non)))))), ?_⟩
  rintro ds g Q ⟨rfl, ⟨b, c, row, owner, ⟨x, p, y, z, l⟩⟩, ⟨rfl, wf⟩, hQ⟩
  replace wf : WfC b c := wf
  replace hQ : Q (dOptSt (putBehind b c row owner ⟨x, p, y, z, l⟩)) [] := hQ
  dsimp only
  walk_at "auto"
  · refine ⟨(.col b c, x), rfl, ?_⟩
    walk_at "auto"
    · refine ⟨(b, c, "put", owner, ⟨x, p, y, z, l⟩), ⟨rfl, wf, by show Str.length "put" ≤ 100; decide⟩, ?_⟩
      walk_at "auto"
      all_goals (show Q _ []; (try clear T); (try clear F); (try clear hr); (try clear c_ColumnWatch_has); (try clear c_ColumnWatch_fitting); (try clear c_ColumnWatch_may_put); (try clear c_ColumnWatch_may_mark); (try clear c_ColumnWatch_may_refer); (try clear c_ColumnWatch_with_letter); (try clear c_Book___contains__); (try clear c_KindWatch_has); (try clear c_KindWatch_may_put); (try clear c_KindWatch_may_mark); (try clear c_KindWatch_with_letter); (try clear c_lacking); (try clear c_ColumnWatch_put_behind); (try clear c_ColumnWatch_turned); (try clear c_ColumnWatch_looked); (try clear c_ColumnWatch_done_behind); (try clear c_ColumnWatch_marked_behind); (simp_all [WatchS.b, sgLab, sgRow, sgSt, sgLet, putBehind, dOptSt] <;> exact hQ))
    · all_goals (show Q _ []; (try clear T); (try clear F); (try clear hr); (try clear c_ColumnWatch_has); (try clear c_ColumnWatch_fitting); (try clear c_ColumnWatch_may_put); (try clear c_ColumnWatch_may_mark); (try clear c_ColumnWatch_may_refer); (try clear c_ColumnWatch_with_letter); (try clear c_Book___contains__); (try clear c_KindWatch_has); (try clear c_KindWatch_may_put); (try clear c_KindWatch_may_mark); (try clear c_KindWatch_with_letter); (try clear c_lacking); (try clear c_ColumnWatch_put_behind); (try clear c_ColumnWatch_turned); (try clear c_ColumnWatch_looked); (try clear c_ColumnWatch_done_behind); (try clear c_ColumnWatch_marked_behind); (simp_all [WatchS.b, sgLab, sgRow, sgSt, sgLet, putBehind, dOptSt] <;> exact hQ))
  · refine ⟨(.col b c, y), rfl, ?_⟩
    walk_at "auto"
    all_goals (show Q _ []; (try clear T); (try clear F); (try clear hr); (try clear c_ColumnWatch_has); (try clear c_ColumnWatch_fitting); (try clear c_ColumnWatch_may_put); (try clear c_ColumnWatch_may_mark); (try clear c_ColumnWatch_may_refer); (try clear c_ColumnWatch_with_letter); (try clear c_Book___contains__); (try clear c_KindWatch_has); (try clear c_KindWatch_may_put); (try clear c_KindWatch_may_mark); (try clear c_KindWatch_with_letter); (try clear c_lacking); (try clear c_ColumnWatch_put_behind); (try clear c_ColumnWatch_turned); (try clear c_ColumnWatch_looked); (try clear c_ColumnWatch_done_behind); (try clear c_ColumnWatch_marked_behind); (simp_all [WatchS.b, sgLab, sgRow, sgSt, sgLet, putBehind, dOptSt] <;> exact hQ))
  · all_goals (show Q _ []; (try clear T); (try clear F); (try clear hr); (try clear c_ColumnWatch_has); (try clear c_ColumnWatch_fitting); (try clear c_ColumnWatch_may_put); (try clear c_ColumnWatch_may_mark); (try clear c_ColumnWatch_may_refer); (try clear c_ColumnWatch_with_letter); (try clear c_Book___contains__); (try clear c_KindWatch_has); (try clear c_KindWatch_may_put); (try clear c_KindWatch_may_mark); (try clear c_KindWatch_with_letter); (try clear c_lacking); (try clear c_ColumnWatch_put_behind); (try clear c_ColumnWatch_turned); (try clear c_ColumnWatch_looked); (try clear c_ColumnWatch_done_behind); (try clear c_ColumnWatch_marked_behind); (simp_all [WatchS.b, sgLab, sgRow, sgSt, sgLet, putBehind, dOptSt] <;> exact hQ))
  · all_goals (show Q _ []; (try clear T); (try clear F); (try clear hr); (try clear c_ColumnWatch_has); (try clear c_ColumnWatch_fitting); (try clear c_ColumnWatch_may_put); (try clear c_ColumnWatch_may_mark); (try clear c_ColumnWatch_may_refer); (try clear c_ColumnWatch_with_letter); (try clear c_Book___contains__); (try clear c_KindWatch_has); (try clear c_KindWatch_may_put); (try clear c_KindWatch_may_mark); (try clear c_KindWatch_with_letter); (try clear c_lacking); (try clear c_ColumnWatch_put_behind); (try clear c_ColumnWatch_turned); (try clear c_ColumnWatch_looked); (try clear c_ColumnWatch_done_behind); (try clear c_ColumnWatch_marked_behind); (simp_all [WatchS.b, sgLab, sgRow, sgSt, sgLet, putBehind, dOptSt] <;> exact hQ))
noncomputable def R_ColumnWatch_turned (K : PySem.W.Frag) : RS := pureR (α := BookS × Col × Str × St5) (fun x ds => ds = [dCW K x.1 x.2.1, dS x.2.2.1, dSt x.2.2.2] ∧ WfC x.1 x.2.1) (fun x => dOptSt (turnedS x.1 x.2.1 x.2.2.1 x.2.2.2))
abbrev N_ColumnWatch_turned : List Str := ["self", "owner", "state", "x", "present", "y", "z", "letters"]
theorem sc_ColumnWatch_turned : FnScope N_ColumnWatch_turned ["self", "owner", "state"] (defScope (inClass (top 33) 8)) := ⟨rfl, rfl, rfl, by decide +kernel, rfl, by decide +kernel, by decide +kernel⟩
theorem ok_ColumnWatch_turned {f : Addr} {fd : FuncData} (T : Txt K mg) (c_ColumnWatch_may_refer : Met P w K mg base CX0 4 (He.ga K "ColumnWatch") "may_refer" ["self", "word", "owner", "state"] (spR (R_ColumnWatch_may_refer K))) (c_ColumnWatch_has : Met P w K mg base CX0 3 (He.ga K "ColumnWatch") "has" ["self", "word", "name"] (spR (R_Watch_has K))) (F : FunD K "turned" "ColumnWatch.turned" (defArgs (inClass (top 33) 8)) (defBody (inClass (top 33) 8)) (defScope (inClass (top 33) 8)) [] [] f fd) : FnOk P w K mg base CX0 5 f fd ["self", "owner", "state"] (spR (R_ColumnWatch_turned K)) := by
  refine okW F sc_ColumnWatch_turned (by rintro ds g Q ⟨_, x, ⟨rfl, _⟩, _⟩; rfl) fun cdv A outer s H E hr => ⟨_, PSs.nox (pss_cons (ps_asg (pv 2) (k_tup (K := K) (n := 5) rfl rfl (pgs_cons (pg_name (i := 3) sc_ColumnWatch_turned.nd rfl (by first | exact Or.inl rfl | exact Or.inr rfl)) (pgs_cons (pg_name (i := 4) sc_ColumnWatch_turned.nd rfl (by first | exact Or.inl rfl | exact Or.inr rfl)) (pgs_cons (pg_name (i := 5) sc_ColumnWatch_turned.nd rfl (by first | exact Or.inl rfl | exact Or.inr rfl)) (pgs_cons (pg_name (i := 6) sc_ColumnWatch_turned.nd rfl (by first | exact Or.inl rfl | exact Or.inr rfl)) (pgs_cons (pg_name (i := 7) sc_ColumnWatch_turned.nd rfl (by first | exact Or.inl rfl | exact Or.inr rfl)) pgs_nil)))))))
      (pss_cons (ps_if (PW.pt (pw_or (pt_cmpR (k_nin (K := K) rfl (hu_of hr)) (pv 3) (pe_glob (v := .ref (He.ga K "HERE")) rfl T.r_HERE rfl) (by rfl)) (pw_or (pt_cmpR (k_eq (K := K) rfl hr.units) (pv 1) (pv 4) (nomark _)) (pw_or1 (pt_not (pt_val (pe_met c_ColumnWatch_may_refer (hr.mono (by decide)) pass0 (pv 0) (pa_cons pe_str (pa_cons (pv 1) (pa_cons (pv 2) pa_nil)))))))))) (pss_one (ps_ret pe_non)) pss_nil)
      (pss_cons (ps_if (PW.pt (pw_and (pt_cmpR (k_ne (K := K) rfl hr.units) (pv 3) pe_str (nomark _)) (pw_and1 (pt_val (pe_met c_ColumnWatch_has (hr.mono (by decide)) pass0 (pv 0) (pa_cons pe_str (pa_cons (k_fld (K := K) rfl (k_fld (K := K) rfl (pv 0))) pa_nil))))))) (pss_one (ps_ret pe_non)) pss_nil)
      (pss_cons (ps_if (PW.pt (pw_and (pt_cmpR (k_eq (K := K) rfl hr.units) (pv 4) pe_str (nomark _)) (pw_and (pt_cmpR (k_in (K := K) rfl (hu_of hr)) (pv 5) (pe_tup (pa_cons pe_str (pa_cons pe_str pa_nil))) (by rfl)) (pw_and1 (pt_val (pe_met c_ColumnWatch_has (hr.mono (by decide)) pass0 (pv 0) (pa_cons pe_str (pa_cons (k_fld (K := K) rfl (k_fld (K := K) rfl (pv 0))) pa_nil)))))))) (pss_one (ps_ret pe_non)) pss_nil)
      (pss_one (ps_ret (pe_tup (pa_cons (pv 3) (pa_cons (pv 1) (pa_cons (pv 5) (pa_cons (pv 6) (pa_cons (pv 7) pa_nil)))))))))))), ?_⟩
  rintro ds g Q ⟨rfl, ⟨b, c, owner, ⟨x, p, y, z, l⟩⟩, ⟨rfl, wf⟩, hQ⟩
  replace wf : WfC b c := wf
  replace hQ : Q (dOptSt (turnedS b c owner ⟨x, p, y, z, l⟩)) [] := hQ
  dsimp only
  walk_at "auto"
  · all_goals (show Q _ []; (try clear T); (try clear F); (try clear hr); (try clear c_ColumnWatch_has); (try clear c_ColumnWatch_fitting); (try clear c_ColumnWatch_may_put); (try clear c_ColumnWatch_may_mark); (try clear c_ColumnWatch_may_refer); (try clear c_ColumnWatch_with_letter); (try clear c_Book___contains__); (try clear c_KindWatch_has); (try clear c_KindWatch_may_put); (try clear c_KindWatch_may_mark); (try clear c_KindWatch_with_letter); (try clear c_lacking); (try clear c_ColumnWatch_put_behind); (try clear c_ColumnWatch_turned); (try clear c_ColumnWatch_looked); (try clear c_ColumnWatch_done_behind); (try clear c_ColumnWatch_marked_behind); (simp_all [WatchS.b, sgLab, sgRow, sgSt, sgLet, turnedS, dOptSt] <;> exact hQ))
  · all_goals (show Q _ []; (try clear T); (try clear F); (try clear hr); (try clear c_ColumnWatch_has); (try clear c_ColumnWatch_fitting); (try clear c_ColumnWatch_may_put); (try clear c_ColumnWatch_may_mark); (try clear c_ColumnWatch_may_refer); (try clear c_ColumnWatch_with_letter); (try clear c_Book___contains__); (try clear c_KindWatch_has); (try clear c_KindWatch_may_put); (try clear c_KindWatch_may_mark); (try clear c_KindWatch_with_letter); (try clear c_lacking); (try clear c_ColumnWatch_put_behind); (try clear c_ColumnWatch_turned); (try clear c_ColumnWatch_looked); (try clear c_ColumnWatch_done_behind); (try clear c_ColumnWatch_marked_behind); (simp_all [WatchS.b, sgLab, sgRow, sgSt, sgLet, turnedS, dOptSt] <;> exact hQ))
  · refine ⟨(b, c, "turn", owner, ⟨x, p, y, z, l⟩), ⟨rfl, wf, by show Str.length "turn" ≤ 100; decide⟩, ?_⟩
    walk_at "auto"
    · all_goals (show Q _ []; (try clear T); (try clear F); (try clear hr); (try clear c_ColumnWatch_has); (try clear c_ColumnWatch_fitting); (try clear c_ColumnWatch_may_put); (try clear c_ColumnWatch_may_mark); (try clear c_ColumnWatch_may_refer); (try clear c_ColumnWatch_with_letter); (try clear c_Book___contains__); (try clear c_KindWatch_has); (try clear c_KindWatch_may_put); (try clear c_KindWatch_may_mark); (try clear c_KindWatch_with_letter); (try clear c_lacking); (try clear c_ColumnWatch_put_behind); (try clear c_ColumnWatch_turned); (try clear c_ColumnWatch_looked); (try clear c_ColumnWatch_done_behind); (try clear c_ColumnWatch_marked_behind); (simp_all [WatchS.b, sgLab, sgRow, sgSt, sgLet, turnedS, dOptSt] <;> exact hQ))
    · refine ⟨(.col b c, "hold", c.word), ⟨rfl, by show Str.length "hold" ≤ 100; decide, wf.word⟩, ?_⟩
      walk_at "auto"
      · all_goals (show Q _ []; (try clear T); (try clear F); (try clear hr); (try clear c_ColumnWatch_has); (try clear c_ColumnWatch_fitting); (try clear c_ColumnWatch_may_put); (try clear c_ColumnWatch_may_mark); (try clear c_ColumnWatch_may_refer); (try clear c_ColumnWatch_with_letter); (try clear c_Book___contains__); (try clear c_KindWatch_has); (try clear c_KindWatch_may_put); (try clear c_KindWatch_may_mark); (try clear c_KindWatch_with_letter); (try clear c_lacking); (try clear c_ColumnWatch_put_behind); (try clear c_ColumnWatch_turned); (try clear c_ColumnWatch_looked); (try clear c_ColumnWatch_done_behind); (try clear c_ColumnWatch_marked_behind); (simp_all [WatchS.b, sgLab, sgRow, sgSt, sgLet, turnedS, dOptSt] <;> exact hQ))
      · refine ⟨(.col b c, "keep", c.word), ⟨rfl, by show Str.length "keep" ≤ 100; decide, wf.word⟩, ?_⟩
        walk_at "auto"
        all_goals (show Q _ []; (try clear T); (try clear F); (try clear hr); (try clear c_ColumnWatch_has); (try clear c_ColumnWatch_fitting); (try clear c_ColumnWatch_may_put); (try clear c_ColumnWatch_may_mark); (try clear c_ColumnWatch_may_refer); (try clear c_ColumnWatch_with_letter); (try clear c_Book___contains__); (try clear c_KindWatch_has); (try clear c_KindWatch_may_put); (try clear c_KindWatch_may_mark); (try clear c_KindWatch_with_letter); (try clear c_lacking); (try clear c_ColumnWatch_put_behind); (try clear c_ColumnWatch_turned); (try clear c_ColumnWatch_looked); (try clear c_ColumnWatch_done_behind); (try clear c_ColumnWatch_marked_behind); (simp_all [WatchS.b, sgLab, sgRow, sgSt, sgLet, turnedS, dOptSt] <;> exact hQ))
      · all_goals (show Q _ []; (try clear T); (try clear F); (try clear hr); (try clear c_ColumnWatch_has); (try clear c_ColumnWatch_fitting); (try clear c_ColumnWatch_may_put); (try clear c_ColumnWatch_may_mark); (try clear c_ColumnWatch_may_refer); (try clear c_ColumnWatch_with_letter); (try clear c_Book___contains__); (try clear c_KindWatch_has); (try clear c_KindWatch_may_put); (try clear c_KindWatch_may_mark); (try clear c_KindWatch_with_letter); (try clear c_lacking); (try clear c_ColumnWatch_put_behind); (try clear c_ColumnWatch_turned); (try clear c_ColumnWatch_looked); (try clear c_ColumnWatch_done_behind); (try clear c_ColumnWatch_marked_behind); (simp_all [WatchS.b, sgLab, sgRow, sgSt, sgLet, turnedS, dOptSt] <;> exact hQ))
      · all_goals (show Q _ []; (try clear T); (try clear F); (try clear hr); (try clear c_ColumnWatch_has); (try clear c_ColumnWatch_fitting); (try clear c_ColumnWatch_may_put); (try clear c_ColumnWatch_may_mark); (try clear c_ColumnWatch_may_refer); (try clear c_ColumnWatch_with_letter); (try clear c_Book___contains__); (try clear c_KindWatch_has); (try clear c_KindWatch_may_put); (try clear c_KindWatch_may_mark); (try clear c_KindWatch_with_letter); (try clear c_lacking); (try clear c_ColumnWatch_put_behind); (try clear c_ColumnWatch_turned); (try clear c_ColumnWatch_looked); (try clear c_ColumnWatch_done_behind); (try clear c_ColumnWatch_marked_behind); (simp_all [WatchS.b, sgLab, sgRow, sgSt, sgLet, turnedS, dOptSt] <;> exact hQ))
    · refine ⟨(.col b c, "keep", c.word), ⟨rfl, by show Str.length "keep" ≤ 100; decide, wf.word⟩, ?_⟩
      walk_at "auto"
      all_goals (show Q _ []; (try clear T); (try clear F); (try clear hr); (try clear c_ColumnWatch_has); (try clear c_ColumnWatch_fitting); (try clear c_ColumnWatch_may_put); (try clear c_ColumnWatch_may_mark); (try clear c_ColumnWatch_may_refer); (try clear c_ColumnWatch_with_letter); (try clear c_Book___contains__); (try clear c_KindWatch_has); (try clear c_KindWatch_may_put); (try clear c_KindWatch_may_mark); (try clear c_KindWatch_with_letter); (try clear c_lacking); (try clear c_ColumnWatch_put_behind); (try clear c_ColumnWatch_turned); (try clear c_ColumnWatch_looked); (try clear c_ColumnWatch_done_behind); (try clear c_ColumnWatch_marked_behind); (simp_all [WatchS.b, sgLab, sgRow, sgSt, sgLet, turnedS, dOptSt] <;> exact hQ))
    · all_goals (show Q _ []; (try clear T); (try clear F); (try clear hr); (try clear c_ColumnWatch_has); (try clear c_ColumnWatch_fitting); (try clear c_ColumnWatch_may_put); (try clear c_ColumnWatch_may_mark); (try clear c_ColumnWatch_may_refer); (try clear c_ColumnWatch_with_letter); (try clear c_Book___contains__); (try clear c_KindWatch_has); (try clear c_KindWatch_may_put); (try clear c_KindWatch_may_mark); (try clear c_KindWatch_with_letter); (try clear c_lacking); (try clear c_ColumnWatch_put_behind); (try clear c_ColumnWatch_turned); (try clear c_ColumnWatch_looked); (try clear c_ColumnWatch_done_behind); (try clear c_ColumnWatch_marked_behind); (simp_all [WatchS.b, sgLab, sgRow, sgSt, sgLet, turnedS, dOptSt] <;> exact hQ))
    · all_goals (show Q _ []; (try clear T); (try clear F); (try clear hr); (try clear c_ColumnWatch_has); (try clear c_ColumnWatch_fitting); (try clear c_ColumnWatch_may_put); (try clear c_ColumnWatch_may_mark); (try clear c_ColumnWatch_may_refer); (try clear c_ColumnWatch_with_letter); (try clear c_Book___contains__); (try clear c_KindWatch_has); (try clear c_KindWatch_may_put); (try clear c_KindWatch_may_mark); (try clear c_KindWatch_with_letter); (try clear c_lacking); (try clear c_ColumnWatch_put_behind); (try clear c_ColumnWatch_turned); (try clear c_ColumnWatch_looked); (try clear c_ColumnWatch_done_behind); (try clear c_ColumnWatch_marked_behind); (simp_all [WatchS.b, sgLab, sgRow, sgSt, sgLet, turnedS, dOptSt] <;> exact hQ))
noncomputable def R_ColumnWatch_marked_behind (K : PySem.W.Frag) : RS := pureR (α := BookS × Col × Bool × Str × St5) (fun x ds => ds = [dCW K x.1 x.2.1, .tup [dS (if x.2.2.1 then "strike" else "mark"), dS x.2.2.2.1], dSt x.2.2.2.2] ∧ WfC x.1 x.2.1) (fun x => dOptSt (markedS x.1 x.2.1 x.2.2.1 x.2.2.2.1 x.2.2.2.2))
abbrev N_ColumnWatch_marked_behind : List Str := ["self", "label", "state", "x", "present", "y", "z", "letters", "may_be"]
theorem sc_ColumnWatch_marked_behind : FnScope N_ColumnWatch_marked_behind ["self", "label", "state"] (defScope (inClass (top 33) 9)) := ⟨rfl, rfl, rfl, by decide +kernel, rfl, by decide +kernel, by decide +kernel⟩
theorem ok_ColumnWatch_marked_behind {f : Addr} {fd : FuncData} (T : Txt K mg) (c_ColumnWatch_may_mark : Met P w K mg base CX0 3 (He.ga K "ColumnWatch") "may_mark" ["self", "kind", "letters"] (spR (R_Watch_may_mark K))) (c_Book___contains__ : Met P w K mg base CX0 2 (He.ga K "Book") "__contains__" ["self", "check"] (spR (R_Book___contains__ K))) (F : FunD K "marked_behind" "ColumnWatch.marked_behind" (defArgs (inClass (top 33) 9)) (defBody (inClass (top 33) 9)) (defScope (inClass (top 33) 9)) [] [] f fd) : FnOk P w K mg base CX0 4 f fd ["self", "label", "state"] (spR (R_ColumnWatch_marked_behind K)) := by
  refine okW F sc_ColumnWatch_marked_behind (by rintro ds g Q ⟨_, x, ⟨rfl, _⟩, _⟩; rfl) fun cdv A outer s H E hr => ⟨_, PSs.nox (pss_cons (ps_asg (pv 2) (k_tup (K := K) (n := 5) rfl rfl (pgs_cons (pg_name (i := 3) sc_ColumnWatch_marked_behind.nd rfl (by first | exact Or.inl rfl | exact Or.inr rfl)) (pgs_cons (pg_name (i := 4) sc_ColumnWatch_marked_behind.nd rfl (by first | exact Or.inl rfl | exact Or.inr rfl)) (pgs_cons (pg_name (i := 5) sc_ColumnWatch_marked_behind.nd rfl (by first | exact Or.inl rfl | exact Or.inr rfl)) (pgs_cons (pg_name (i := 6) sc_ColumnWatch_marked_behind.nd rfl (by first | exact Or.inl rfl | exact Or.inr rfl)) (pgs_cons (pg_name (i := 7) sc_ColumnWatch_marked_behind.nd rfl (by first | exact Or.inl rfl | exact Or.inr rfl)) pgs_nil)))))))
      (pss_cons (ps_if (pt_cmpR (k_eq (K := K) rfl hr.units) (pe_ix (k_ix (K := K) rfl (hu_of hr)) (pv 1) pe_int (fun _ _ => rfl)) pe_str (nomark _)) (pss_one (ps_ret (pe_ifExp (PW.pt (pw_and (pt_cmpR (k_eq (K := K) rfl hr.units) (pv 5) pe_str (nomark _)) (pw_and1 (pt_val (pe_met c_ColumnWatch_may_mark (hr.mono (by decide)) pass0 (pv 0) (pa_cons (k_fld (K := K) rfl (pv 0)) (pa_cons (pv 7) pa_nil))))))) (pe_tup (pa_cons (pv 3) (pa_cons (pv 4) (pa_cons pe_str (pa_cons (pv 6) (pa_cons (pv 7) pa_nil)))))) pe_non))) pss_nil)
      (pss_cons (ps_if (pt_cmpR (k_eq (K := K) rfl hr.units) (pe_ix (k_ix (K := K) rfl (hu_of hr)) (pv 1) pe_int (fun _ _ => rfl)) pe_str (nomark _)) (pss_one (ps_set (i := 8) sc_ColumnWatch_marked_behind.nd rfl (by first | exact Or.inl rfl | exact Or.inr rfl) (pe_and (pe_ix (k_ix (K := K) rfl (hu_of hr)) (k_fld (K := K) rfl (k_fld (K := K) rfl (pv 0))) (k_fld (K := K) rfl (pv 0)) (fun _ _ => rfl)) (pe_one (pe_cmpR (k_in (K := K) rfl (hu_of hr)) (pv 3) (pe_tup (pa_cons pe_str (pa_cons pe_str pa_nil))) (by rfl)))))) (pss_one (ps_set (i := 8) sc_ColumnWatch_marked_behind.nd rfl (by first | exact Or.inl rfl | exact Or.inr rfl) (pe_and (pe_cmpR (k_eq (K := K) rfl hr.units) (pv 3) pe_str (nomark _)) (pe_and (pe_cmpR op_notNn (k_fld (K := K) rfl (pv 0)) pe_non (nomark _)) (pe_one (pe_or (pe_cmpR (k_eq (K := K) rfl hr.units) (pv 7) pe_str (nomark _)) (pe_one (pe_cmpR (op_ninM c_Book___contains__ (hr.mono (by decide)) pass0) pe_str (k_fld (K := K) rfl (pv 0)) (by rfl))))))))))
      (pss_one (ps_ret (pe_ifExp (pt_val (pv 8)) (pe_tup (pa_cons pe_str (pa_cons (pv 4) (pa_cons (pv 5) (pa_cons (pv 6) (pa_cons (pv 7) pa_nil)))))) pe_non)))))), ?_⟩
  rintro ds g Q ⟨rfl, ⟨b, c, st, row, ⟨x, p, y, z, l⟩⟩, ⟨rfl, wf⟩, hQ⟩
  replace wf : WfC b c := wf
  replace hQ : Q (dOptSt (markedS b c st row ⟨x, p, y, z, l⟩)) [] := hQ
  dsimp only
  cases st with
  | true =>
    try simp only [if_true]
    walk_at "auto"
    · refine ⟨(.col b c, c.goal, l), ⟨rfl, wf.toWfB⟩, ?_⟩
      walk_at "auto"
      all_goals (show Q _ []; (try clear T); (try clear F); (try clear hr); (try clear c_ColumnWatch_has); (try clear c_ColumnWatch_fitting); (try clear c_ColumnWatch_may_put); (try clear c_ColumnWatch_may_mark); (try clear c_ColumnWatch_may_refer); (try clear c_ColumnWatch_with_letter); (try clear c_Book___contains__); (try clear c_KindWatch_has); (try clear c_KindWatch_may_put); (try clear c_KindWatch_may_mark); (try clear c_KindWatch_with_letter); (try clear c_lacking); (try clear c_ColumnWatch_put_behind); (try clear c_ColumnWatch_turned); (try clear c_ColumnWatch_looked); (try clear c_ColumnWatch_done_behind); (try clear c_ColumnWatch_marked_behind); (simp_all [WatchS.b, sgLab, sgRow, sgSt, sgLet, markedS, dOptSt, isN_dOpt, loneB] <;> exact hQ))
    · all_goals (show Q _ []; (try clear T); (try clear F); (try clear hr); (try clear c_ColumnWatch_has); (try clear c_ColumnWatch_fitting); (try clear c_ColumnWatch_may_put); (try clear c_ColumnWatch_may_mark); (try clear c_ColumnWatch_may_refer); (try clear c_ColumnWatch_with_letter); (try clear c_Book___contains__); (try clear c_KindWatch_has); (try clear c_KindWatch_may_put); (try clear c_KindWatch_may_mark); (try clear c_KindWatch_with_letter); (try clear c_lacking); (try clear c_ColumnWatch_put_behind); (try clear c_ColumnWatch_turned); (try clear c_ColumnWatch_looked); (try clear c_ColumnWatch_done_behind); (try clear c_ColumnWatch_marked_behind); (simp_all [WatchS.b, sgLab, sgRow, sgSt, sgLet, markedS, dOptSt, isN_dOpt, loneB] <;> exact hQ))
    · refine ixA_D (.im _ _) (dlk_kinds wf.toWfB (wf.home c wf.mem)) ?_
      walk_at "auto"
      all_goals (show Q _ []; (try clear T); (try clear F); (try clear hr); (try clear c_ColumnWatch_has); (try clear c_ColumnWatch_fitting); (try clear c_ColumnWatch_may_put); (try clear c_ColumnWatch_may_mark); (try clear c_ColumnWatch_may_refer); (try clear c_ColumnWatch_with_letter); (try clear c_Book___contains__); (try clear c_KindWatch_has); (try clear c_KindWatch_may_put); (try clear c_KindWatch_may_mark); (try clear c_KindWatch_with_letter); (try clear c_lacking); (try clear c_ColumnWatch_put_behind); (try clear c_ColumnWatch_turned); (try clear c_ColumnWatch_looked); (try clear c_ColumnWatch_done_behind); (try clear c_ColumnWatch_marked_behind); (simp_all [WatchS.b, sgLab, sgRow, sgSt, sgLet, markedS, dOptSt, isN_dOpt, loneB] <;> exact hQ))
  | false =>
    try simp only [Bool.false_eq_true, if_false]
    walk_at "auto"
    · refine ⟨(.col b c, c.goal, l), ⟨rfl, wf.toWfB⟩, ?_⟩
      walk_at "auto"
      all_goals (show Q _ []; (try clear T); (try clear F); (try clear hr); (try clear c_ColumnWatch_has); (try clear c_ColumnWatch_fitting); (try clear c_ColumnWatch_may_put); (try clear c_ColumnWatch_may_mark); (try clear c_ColumnWatch_may_refer); (try clear c_ColumnWatch_with_letter); (try clear c_Book___contains__); (try clear c_KindWatch_has); (try clear c_KindWatch_may_put); (try clear c_KindWatch_may_mark); (try clear c_KindWatch_with_letter); (try clear c_lacking); (try clear c_ColumnWatch_put_behind); (try clear c_ColumnWatch_turned); (try clear c_ColumnWatch_looked); (try clear c_ColumnWatch_done_behind); (try clear c_ColumnWatch_marked_behind); (simp_all [WatchS.b, sgLab, sgRow, sgSt, sgLet, markedS, dOptSt, isN_dOpt, loneB] <;> exact hQ))
    all_goals (show Q _ []; (try clear T); (try clear F); (try clear hr); (try clear c_ColumnWatch_has); (try clear c_ColumnWatch_fitting); (try clear c_ColumnWatch_may_put); (try clear c_ColumnWatch_may_mark); (try clear c_ColumnWatch_may_refer); (try clear c_ColumnWatch_with_letter); (try clear c_Book___contains__); (try clear c_KindWatch_has); (try clear c_KindWatch_may_put); (try clear c_KindWatch_may_mark); (try clear c_KindWatch_with_letter); (try clear c_lacking); (try clear c_ColumnWatch_put_behind); (try clear c_ColumnWatch_turned); (try clear c_ColumnWatch_looked); (try clear c_ColumnWatch_done_behind); (try clear c_ColumnWatch_marked_behind); (simp_all [WatchS.b, sgLab, sgRow, sgSt, sgLet, markedS, dOptSt, isN_dOpt, loneB] <;> exact hQ))
noncomputable def R_ColumnWatch_fitting (K : PySem.W.Frag) : RS := pureR (α := BookS × Col × Str × St5) (fun x ds => ds = [dCW K x.1 x.2.1, dS x.2.2.1, dSt x.2.2.2] ∧ WfC x.1 x.2.1) (fun x => dB (fitting x.1 x.2.1 x.2.2.1 x.2.2.2))
abbrev N_ColumnWatch_fitting : List Str := ["self", "letter", "state", "x", "present", "y", "z", "letters"]
theorem sc_ColumnWatch_fitting : FnScope N_ColumnWatch_fitting ["self", "letter", "state"] (defScope (inClass (top 33) 10)) := ⟨rfl, rfl, rfl, by decide +kernel, rfl, by decide +kernel, by decide +kernel⟩
theorem ok_ColumnWatch_fitting {f : Addr} {fd : FuncData} (T : Txt K mg) (c_ColumnWatch_has : Met P w K mg base CX0 3 (He.ga K "ColumnWatch") "has" ["self", "word", "name"] (spR (R_Watch_has K))) (F : FunD K "fitting" "ColumnWatch.fitting" (defArgs (inClass (top 33) 10)) (defBody (inClass (top 33) 10)) (defScope (inClass (top 33) 10)) [] [] f fd) : FnOk P w K mg base CX0 4 f fd ["self", "letter", "state"] (spR (R_ColumnWatch_fitting K)) := by
  refine okW F sc_ColumnWatch_fitting (by rintro ds g Q ⟨_, x, ⟨rfl, _⟩, _⟩; rfl) fun cdv A outer s H E hr => ⟨_, PSs.nox (pss_cons (ps_asg (pv 2) (k_tup (K := K) (n := 5) rfl rfl (pgs_cons (pg_name (i := 3) sc_ColumnWatch_fitting.nd rfl (by first | exact Or.inl rfl | exact Or.inr rfl)) (pgs_cons (pg_name (i := 4) sc_ColumnWatch_fitting.nd rfl (by first | exact Or.inl rfl | exact Or.inr rfl)) (pgs_cons (pg_name (i := 5) sc_ColumnWatch_fitting.nd rfl (by first | exact Or.inl rfl | exact Or.inr rfl)) (pgs_cons (pg_name (i := 6) sc_ColumnWatch_fitting.nd rfl (by first | exact Or.inl rfl | exact Or.inr rfl)) (pgs_cons (pg_name (i := 7) sc_ColumnWatch_fitting.nd rfl (by first | exact Or.inl rfl | exact Or.inr rfl)) pgs_nil)))))))
      (pss_cons (ps_if (pt_cmpR (k_eq (K := K) rfl hr.units) (pv 1) pe_str (nomark _)) (pss_one (ps_ret (pe_cmpR (k_in (K := K) rfl (hu_of hr)) (pv 3) (pe_tup (pa_cons pe_str (pa_cons pe_str pa_nil))) (by rfl)))) pss_nil)
      (pss_cons (ps_if (pt_cmpR (k_eq (K := K) rfl hr.units) (pv 1) pe_str (nomark _)) (pss_one (ps_ret (pe_and (pe_cmpR (k_eq (K := K) rfl hr.units) (pv 3) pe_str (nomark _)) (pe_and (pe_cmpR (k_eq (K := K) rfl hr.units) (pv 4) pe_str (nomark _)) (pe_one (pe_cmpR (k_eq (K := K) rfl hr.units) (pv 5) pe_str (nomark _))))))) pss_nil)
      (pss_cons (ps_if (pt_cmpR (k_eq (K := K) rfl hr.units) (pv 1) pe_str (nomark _)) (pss_one (ps_ret (pe_and (pe_cmpR (k_in (K := K) rfl (hu_of hr)) (pv 3) (pe_glob (v := .ref (He.ga K "HERE")) rfl T.r_HERE rfl) (by rfl)) (pe_and (pe_cmpR (k_eq (K := K) rfl hr.units) (pv 4) pe_str (nomark _)) (pe_one (pe_cmpR (k_eq (K := K) rfl hr.units) (pv 5) pe_str (nomark _))))))) pss_nil)
      (pss_cons (ps_if (PW.pt (pw_or (pt_cmpR (k_ne (K := K) rfl hr.units) (pv 5) pe_str (nomark _)) (pw_or1 (PW.pt (pw_and (pt_cmpR (k_eq (K := K) rfl hr.units) (pv 4) pe_str (nomark _)) (pw_and (pt_cmpR (k_in (K := K) rfl (hu_of hr)) (pv 3) (pe_glob (v := .ref (He.ga K "HERE")) rfl T.r_HERE rfl) (by rfl)) (pw_and1 (pt_val (pe_met c_ColumnWatch_has (hr.mono (by decide)) pass0 (pv 0) (pa_cons pe_str (pa_cons (k_fld (K := K) rfl (pv 0)) pa_nil))))))))))) (pss_one (ps_ret pe_bl)) pss_nil)
      (pss_one (ps_ret (pe_not (pe_and (pe_cmpR (k_eq (K := K) rfl hr.units) (pv 4) pe_str (nomark _)) (pe_and (pe_cmpR (k_eq (K := K) rfl hr.units) (pv 3) pe_str (nomark _)) (pe_one (pe_met c_ColumnWatch_has (hr.mono (by decide)) pass0 (pv 0) (pa_cons pe_str (pa_cons (k_fld (K := K) rfl (pv 0)) pa_nil)))))))))))))), ?_⟩
  rintro ds g Q ⟨rfl, ⟨b, c, ch, ⟨x, p, y, z, l⟩⟩, ⟨rfl, wf⟩, hQ⟩
  replace wf : WfC b c := wf
  replace hQ : Q (dB (fitting b c ch ⟨x, p, y, z, l⟩)) [] := hQ
  dsimp only
  walk_at "auto"
  · all_goals (show Q _ []; (try clear T); (try clear F); (try clear hr); (try clear c_ColumnWatch_has); (try clear c_ColumnWatch_fitting); (try clear c_ColumnWatch_may_put); (try clear c_ColumnWatch_may_mark); (try clear c_ColumnWatch_may_refer); (try clear c_ColumnWatch_with_letter); (try clear c_Book___contains__); (try clear c_KindWatch_has); (try clear c_KindWatch_may_put); (try clear c_KindWatch_may_mark); (try clear c_KindWatch_with_letter); (try clear c_lacking); (try clear c_ColumnWatch_put_behind); (try clear c_ColumnWatch_turned); (try clear c_ColumnWatch_looked); (try clear c_ColumnWatch_done_behind); (try clear c_ColumnWatch_marked_behind); (simp_all [WatchS.b, sgLab, sgRow, sgSt, sgLet, fitting] <;> exact hQ))
  · all_goals (show Q _ []; (try clear T); (try clear F); (try clear hr); (try clear c_ColumnWatch_has); (try clear c_ColumnWatch_fitting); (try clear c_ColumnWatch_may_put); (try clear c_ColumnWatch_may_mark); (try clear c_ColumnWatch_may_refer); (try clear c_ColumnWatch_with_letter); (try clear c_Book___contains__); (try clear c_KindWatch_has); (try clear c_KindWatch_may_put); (try clear c_KindWatch_may_mark); (try clear c_KindWatch_with_letter); (try clear c_lacking); (try clear c_ColumnWatch_put_behind); (try clear c_ColumnWatch_turned); (try clear c_ColumnWatch_looked); (try clear c_ColumnWatch_done_behind); (try clear c_ColumnWatch_marked_behind); (simp_all [WatchS.b, sgLab, sgRow, sgSt, sgLet, fitting] <;> exact hQ))
  · all_goals (show Q _ []; (try clear T); (try clear F); (try clear hr); (try clear c_ColumnWatch_has); (try clear c_ColumnWatch_fitting); (try clear c_ColumnWatch_may_put); (try clear c_ColumnWatch_may_mark); (try clear c_ColumnWatch_may_refer); (try clear c_ColumnWatch_with_letter); (try clear c_Book___contains__); (try clear c_KindWatch_has); (try clear c_KindWatch_may_put); (try clear c_KindWatch_may_mark); (try clear c_KindWatch_with_letter); (try clear c_lacking); (try clear c_ColumnWatch_put_behind); (try clear c_ColumnWatch_turned); (try clear c_ColumnWatch_looked); (try clear c_ColumnWatch_done_behind); (try clear c_ColumnWatch_marked_behind); (simp_all [WatchS.b, sgLab, sgRow, sgSt, sgLet, fitting] <;> exact hQ))
  · all_goals (show Q _ []; (try clear T); (try clear F); (try clear hr); (try clear c_ColumnWatch_has); (try clear c_ColumnWatch_fitting); (try clear c_ColumnWatch_may_put); (try clear c_ColumnWatch_may_mark); (try clear c_ColumnWatch_may_refer); (try clear c_ColumnWatch_with_letter); (try clear c_Book___contains__); (try clear c_KindWatch_has); (try clear c_KindWatch_may_put); (try clear c_KindWatch_may_mark); (try clear c_KindWatch_with_letter); (try clear c_lacking); (try clear c_ColumnWatch_put_behind); (try clear c_ColumnWatch_turned); (try clear c_ColumnWatch_looked); (try clear c_ColumnWatch_done_behind); (try clear c_ColumnWatch_marked_behind); (simp_all [WatchS.b, sgLab, sgRow, sgSt, sgLet, fitting] <;> exact hQ))
  · all_goals (show Q _ []; (try clear T); (try clear F); (try clear hr); (try clear c_ColumnWatch_has); (try clear c_ColumnWatch_fitting); (try clear c_ColumnWatch_may_put); (try clear c_ColumnWatch_may_mark); (try clear c_ColumnWatch_may_refer); (try clear c_ColumnWatch_with_letter); (try clear c_Book___contains__); (try clear c_KindWatch_has); (try clear c_KindWatch_may_put); (try clear c_KindWatch_may_mark); (try clear c_KindWatch_with_letter); (try clear c_lacking); (try clear c_ColumnWatch_put_behind); (try clear c_ColumnWatch_turned); (try clear c_ColumnWatch_looked); (try clear c_ColumnWatch_done_behind); (try clear c_ColumnWatch_marked_behind); (simp_all [WatchS.b, sgLab, sgRow, sgSt, sgLet, fitting] <;> exact hQ))
  · all_goals (show Q _ []; (try clear T); (try clear F); (try clear hr); (try clear c_ColumnWatch_has); (try clear c_ColumnWatch_fitting); (try clear c_ColumnWatch_may_put); (try clear c_ColumnWatch_may_mark); (try clear c_ColumnWatch_may_refer); (try clear c_ColumnWatch_with_letter); (try clear c_Book___contains__); (try clear c_KindWatch_has); (try clear c_KindWatch_may_put); (try clear c_KindWatch_may_mark); (try clear c_KindWatch_with_letter); (try clear c_lacking); (try clear c_ColumnWatch_put_behind); (try clear c_ColumnWatch_turned); (try clear c_ColumnWatch_looked); (try clear c_ColumnWatch_done_behind); (try clear c_ColumnWatch_marked_behind); (simp_all [WatchS.b, sgLab, sgRow, sgSt, sgLet, fitting] <;> exact hQ))
  · all_goals (show Q _ []; (try clear T); (try clear F); (try clear hr); (try clear c_ColumnWatch_has); (try clear c_ColumnWatch_fitting); (try clear c_ColumnWatch_may_put); (try clear c_ColumnWatch_may_mark); (try clear c_ColumnWatch_may_refer); (try clear c_ColumnWatch_with_letter); (try clear c_Book___contains__); (try clear c_KindWatch_has); (try clear c_KindWatch_may_put); (try clear c_KindWatch_may_mark); (try clear c_KindWatch_with_letter); (try clear c_lacking); (try clear c_ColumnWatch_put_behind); (try clear c_ColumnWatch_turned); (try clear c_ColumnWatch_looked); (try clear c_ColumnWatch_done_behind); (try clear c_ColumnWatch_marked_behind); (simp_all [WatchS.b, sgLab, sgRow, sgSt, sgLet, fitting] <;> exact hQ))
  · all_goals (show Q _ []; (try clear T); (try clear F); (try clear hr); (try clear c_ColumnWatch_has); (try clear c_ColumnWatch_fitting); (try clear c_ColumnWatch_may_put); (try clear c_ColumnWatch_may_mark); (try clear c_ColumnWatch_may_refer); (try clear c_ColumnWatch_with_letter); (try clear c_Book___contains__); (try clear c_KindWatch_has); (try clear c_KindWatch_may_put); (try clear c_KindWatch_may_mark); (try clear c_KindWatch_with_letter); (try clear c_lacking); (try clear c_ColumnWatch_put_behind); (try clear c_ColumnWatch_turned); (try clear c_ColumnWatch_looked); (try clear c_ColumnWatch_done_behind); (try clear c_ColumnWatch_marked_behind); (simp_all [WatchS.b, sgLab, sgRow, sgSt, sgLet, fitting] <;> exact hQ))
  · refine ⟨(.col b c, "bare", c.goal), ⟨rfl, by show Str.length "bare" ≤ 100; decide, wf.goalL⟩, ?_⟩
    walk_at "auto"
    · all_goals (show Q _ []; (try clear T); (try clear F); (try clear hr); (try clear c_ColumnWatch_has); (try clear c_ColumnWatch_fitting); (try clear c_ColumnWatch_may_put); (try clear c_ColumnWatch_may_mark); (try clear c_ColumnWatch_may_refer); (try clear c_ColumnWatch_with_letter); (try clear c_Book___contains__); (try clear c_KindWatch_has); (try clear c_KindWatch_may_put); (try clear c_KindWatch_may_mark); (try clear c_KindWatch_with_letter); (try clear c_lacking); (try clear c_ColumnWatch_put_behind); (try clear c_ColumnWatch_turned); (try clear c_ColumnWatch_looked); (try clear c_ColumnWatch_done_behind); (try clear c_ColumnWatch_marked_behind); (simp_all [WatchS.b, sgLab, sgRow, sgSt, sgLet, fitting] <;> exact hQ))
    · refine ⟨(.col b c, "calm", c.goal), ⟨rfl, by show Str.length "calm" ≤ 100; decide, wf.goalL⟩, ?_⟩
      walk_at "auto"
      all_goals (show Q _ []; (try clear T); (try clear F); (try clear hr); (try clear c_ColumnWatch_has); (try clear c_ColumnWatch_fitting); (try clear c_ColumnWatch_may_put); (try clear c_ColumnWatch_may_mark); (try clear c_ColumnWatch_may_refer); (try clear c_ColumnWatch_with_letter); (try clear c_Book___contains__); (try clear c_KindWatch_has); (try clear c_KindWatch_may_put); (try clear c_KindWatch_may_mark); (try clear c_KindWatch_with_letter); (try clear c_lacking); (try clear c_ColumnWatch_put_behind); (try clear c_ColumnWatch_turned); (try clear c_ColumnWatch_looked); (try clear c_ColumnWatch_done_behind); (try clear c_ColumnWatch_marked_behind); (simp_all [WatchS.b, sgLab, sgRow, sgSt, sgLet, fitting] <;> exact hQ))
    · all_goals (show Q _ []; (try clear T); (try clear F); (try clear hr); (try clear c_ColumnWatch_has); (try clear c_ColumnWatch_fitting); (try clear c_ColumnWatch_may_put); (try clear c_ColumnWatch_may_mark); (try clear c_ColumnWatch_may_refer); (try clear c_ColumnWatch_with_letter); (try clear c_Book___contains__); (try clear c_KindWatch_has); (try clear c_KindWatch_may_put); (try clear c_KindWatch_may_mark); (try clear c_KindWatch_with_letter); (try clear c_lacking); (try clear c_ColumnWatch_put_behind); (try clear c_ColumnWatch_turned); (try clear c_ColumnWatch_looked); (try clear c_ColumnWatch_done_behind); (try clear c_ColumnWatch_marked_behind); (simp_all [WatchS.b, sgLab, sgRow, sgSt, sgLet, fitting] <;> exact hQ))
    · all_goals (show Q _ []; (try clear T); (try clear F); (try clear hr); (try clear c_ColumnWatch_has); (try clear c_ColumnWatch_fitting); (try clear c_ColumnWatch_may_put); (try clear c_ColumnWatch_may_mark); (try clear c_ColumnWatch_may_refer); (try clear c_ColumnWatch_with_letter); (try clear c_Book___contains__); (try clear c_KindWatch_has); (try clear c_KindWatch_may_put); (try clear c_KindWatch_may_mark); (try clear c_KindWatch_with_letter); (try clear c_lacking); (try clear c_ColumnWatch_put_behind); (try clear c_ColumnWatch_turned); (try clear c_ColumnWatch_looked); (try clear c_ColumnWatch_done_behind); (try clear c_ColumnWatch_marked_behind); (simp_all [WatchS.b, sgLab, sgRow, sgSt, sgLet, fitting] <;> exact hQ))
  · refine ⟨(.col b c, "calm", c.goal), ⟨rfl, by show Str.length "calm" ≤ 100; decide, wf.goalL⟩, ?_⟩
    walk_at "auto"
    all_goals (show Q _ []; (try clear T); (try clear F); (try clear hr); (try clear c_ColumnWatch_has); (try clear c_ColumnWatch_fitting); (try clear c_ColumnWatch_may_put); (try clear c_ColumnWatch_may_mark); (try clear c_ColumnWatch_may_refer); (try clear c_ColumnWatch_with_letter); (try clear c_Book___contains__); (try clear c_KindWatch_has); (try clear c_KindWatch_may_put); (try clear c_KindWatch_may_mark); (try clear c_KindWatch_with_letter); (try clear c_lacking); (try clear c_ColumnWatch_put_behind); (try clear c_ColumnWatch_turned); (try clear c_ColumnWatch_looked); (try clear c_ColumnWatch_done_behind); (try clear c_ColumnWatch_marked_behind); (simp_all [WatchS.b, sgLab, sgRow, sgSt, sgLet, fitting] <;> exact hQ))
  · all_goals (show Q _ []; (try clear T); (try clear F); (try clear hr); (try clear c_ColumnWatch_has); (try clear c_ColumnWatch_fitting); (try clear c_ColumnWatch_may_put); (try clear c_ColumnWatch_may_mark); (try clear c_ColumnWatch_may_refer); (try clear c_ColumnWatch_with_letter); (try clear c_Book___contains__); (try clear c_KindWatch_has); (try clear c_KindWatch_may_put); (try clear c_KindWatch_may_mark); (try clear c_KindWatch_with_letter); (try clear c_lacking); (try clear c_ColumnWatch_put_behind); (try clear c_ColumnWatch_turned); (try clear c_ColumnWatch_looked); (try clear c_ColumnWatch_done_behind); (try clear c_ColumnWatch_marked_behind); (simp_all [WatchS.b, sgLab, sgRow, sgSt, sgLet, fitting] <;> exact hQ))
  · all_goals (show Q _ []; (try clear T); (try clear F); (try clear hr); (try clear c_ColumnWatch_has); (try clear c_ColumnWatch_fitting); (try clear c_ColumnWatch_may_put); (try clear c_ColumnWatch_may_mark); (try clear c_ColumnWatch_may_refer); (try clear c_ColumnWatch_with_letter); (try clear c_Book___contains__); (try clear c_KindWatch_has); (try clear c_KindWatch_may_put); (try clear c_KindWatch_may_mark); (try clear c_KindWatch_with_letter); (try clear c_lacking); (try clear c_ColumnWatch_put_behind); (try clear c_ColumnWatch_turned); (try clear c_ColumnWatch_looked); (try clear c_ColumnWatch_done_behind); (try clear c_ColumnWatch_marked_behind); (simp_all [WatchS.b, sgLab, sgRow, sgSt, sgLet, fitting] <;> exact hQ))
  · refine ⟨(.col b c, "calm", c.goal), ⟨rfl, by show Str.length "calm" ≤ 100; decide, wf.goalL⟩, ?_⟩
    walk_at "auto"
    all_goals (show Q _ []; (try clear T); (try clear F); (try clear hr); (try clear c_ColumnWatch_has); (try clear c_ColumnWatch_fitting); (try clear c_ColumnWatch_may_put); (try clear c_ColumnWatch_may_mark); (try clear c_ColumnWatch_may_refer); (try clear c_ColumnWatch_with_letter); (try clear c_Book___contains__); (try clear c_KindWatch_has); (try clear c_KindWatch_may_put); (try clear c_KindWatch_may_mark); (try clear c_KindWatch_with_letter); (try clear c_lacking); (try clear c_ColumnWatch_put_behind); (try clear c_ColumnWatch_turned); (try clear c_ColumnWatch_looked); (try clear c_ColumnWatch_done_behind); (try clear c_ColumnWatch_marked_behind); (simp_all [WatchS.b, sgLab, sgRow, sgSt, sgLet, fitting] <;> exact hQ))
  · all_goals (show Q _ []; (try clear T); (try clear F); (try clear hr); (try clear c_ColumnWatch_has); (try clear c_ColumnWatch_fitting); (try clear c_ColumnWatch_may_put); (try clear c_ColumnWatch_may_mark); (try clear c_ColumnWatch_may_refer); (try clear c_ColumnWatch_with_letter); (try clear c_Book___contains__); (try clear c_KindWatch_has); (try clear c_KindWatch_may_put); (try clear c_KindWatch_may_mark); (try clear c_KindWatch_with_letter); (try clear c_lacking); (try clear c_ColumnWatch_put_behind); (try clear c_ColumnWatch_turned); (try clear c_ColumnWatch_looked); (try clear c_ColumnWatch_done_behind); (try clear c_ColumnWatch_marked_behind); (simp_all [WatchS.b, sgLab, sgRow, sgSt, sgLet, fitting] <;> exact hQ))
  · all_goals (show Q _ []; (try clear T); (try clear F); (try clear hr); (try clear c_ColumnWatch_has); (try clear c_ColumnWatch_fitting); (try clear c_ColumnWatch_may_put); (try clear c_ColumnWatch_may_mark); (try clear c_ColumnWatch_may_refer); (try clear c_ColumnWatch_with_letter); (try clear c_Book___contains__); (try clear c_KindWatch_has); (try clear c_KindWatch_may_put); (try clear c_KindWatch_may_mark); (try clear c_KindWatch_with_letter); (try clear c_lacking); (try clear c_ColumnWatch_put_behind); (try clear c_ColumnWatch_turned); (try clear c_ColumnWatch_looked); (try clear c_ColumnWatch_done_behind); (try clear c_ColumnWatch_marked_behind); (simp_all [WatchS.b, sgLab, sgRow, sgSt, sgLet, fitting] <;> exact hQ))
noncomputable def R_ColumnWatch_looked (K : PySem.W.Frag) : RS := pureR (α := BookS × Col × Nat × St5) (fun x ds => ds = [dCW K x.1 x.2.1, dS (s1 x.2.2.1), dSt x.2.2.2] ∧ WfC x.1 x.2.1 ∧ isL x.2.2.2.l) (fun x => dOptSt (lookedS x.1 x.2.1 (s1 x.2.2.1) x.2.2.2))
abbrev N_ColumnWatch_looked : List Str := ["self", "letter", "state", "more"]
theorem sc_ColumnWatch_looked : FnScope N_ColumnWatch_looked ["self", "letter", "state"] (defScope (inClass (top 33) 11)) := ⟨rfl, rfl, rfl, by decide +kernel, rfl, by decide +kernel, by decide +kernel⟩
theorem ok_ColumnWatch_looked {f : Addr} {fd : FuncData} (T : Txt K mg) (c_ColumnWatch_with_letter : Met P w K mg base CX0 3 (He.ga K "ColumnWatch") "with_letter" ["self", "letters", "letter"] (spR (R_Watch_with_letter K))) (c_ColumnWatch_fitting : Met P w K mg base CX0 4 (He.ga K "ColumnWatch") "fitting" ["self", "letter", "state"] (spR (R_ColumnWatch_fitting K))) (F : FunD K "looked" "ColumnWatch.looked" (defArgs (inClass (top 33) 11)) (defBody (inClass (top 33) 11)) (defScope (inClass (top 33) 11)) [] [] f fd) : FnOk P w K mg base CX0 5 f fd ["self", "letter", "state"] (spR (R_ColumnWatch_looked K)) := by
  refine okW F sc_ColumnWatch_looked (by rintro ds g Q ⟨_, x, ⟨rfl, _⟩, _⟩; rfl) fun cdv A outer s H E hr => ⟨_, PSs.nox (pss_cons (ps_set (i := 3) sc_ColumnWatch_looked.nd rfl (by first | exact Or.inl rfl | exact Or.inr rfl) (pe_met c_ColumnWatch_with_letter (hr.mono (by decide)) pass0 (pv 0) (pa_cons (pe_ix (k_ix (K := K) rfl (hu_of hr)) (pv 2) pe_int (fun _ _ => rfl)) (pa_cons (pv 1) pa_nil))))
      (pss_one (ps_ret (pe_ifExp (PW.pt (pw_or (pt_cmpR op_isNn (pv 3) pe_non (nomark _)) (pw_or1 (pt_not (pt_val (pe_met c_ColumnWatch_fitting (hr.mono (by decide)) pass0 (pv 0) (pa_cons (pv 1) (pa_cons (pv 2) pa_nil)))))))) pe_non (pe_tup (k_starA (K := K) rfl rfl (pe_slice (k_sl (K := K) rfl) (pv 2) po_none (po_some pe_int)) (pa_cons (pv 3) pa_nil))))))), ?_⟩
  rintro ds g Q ⟨rfl, ⟨b, c, a, ⟨x, p, y, z, l⟩⟩, ⟨rfl, wf, hl⟩, hQ⟩
  replace wf : WfC b c := wf
  replace hl : isL l := hl
  replace hQ : Q (dOptSt (lookedS b c (s1 a) ⟨x, p, y, z, l⟩)) [] := hQ
  dsimp only
  walk_at "auto"
  refine ⟨(.col b c, l, a), ⟨rfl, hl⟩, ?_⟩
  have hQ2 : Q (dOptSt (match withL b l (s1 a) with
    | none => none
    | some m => if fitting b c (s1 a) ⟨x, p, y, z, l⟩ = true then some ⟨x, p, y, z, m⟩ else none)) [] := hQ
  dsimp only [WatchS.b]
  cases hm : withL b l (s1 a) with
  | none =>
    rw [hm] at hQ2
    walk_at "auto"
    all_goals (simp_all; first | exact hQ2 | done)
  | some m =>
    rw [hm] at hQ2
    walk_at "auto"
    refine ⟨(b, c, s1 a, ⟨x, p, y, z, l⟩), ⟨rfl, wf⟩, ?_⟩
    walk_at "auto"
    · simp_all; exact hQ2
    · refine ⟨_, .tup _ (by show ¬ (HT.sIx 5 0 none = 0 ∧ HT.sIx 5 5 (some 4) = 5); decide), ?_⟩
      walk_at "auto"
      refine ⟨_, .sq _ _ (.t _), ?_⟩
      walk_at "auto"
      have hf : fitting b c (s1 a) ⟨x, p, y, z, l⟩ = true := by simp_all
      simp only [hf, if_true] at hQ2
      refine ⟨by show 5 ≤ 1000000; decide, ?_⟩
      exact hQ2
def letters4 : List Str := ["S", "C", "X", "Y"]
noncomputable def R_ColumnWatch_done_behind (K : PySem.W.Frag) : RS := pureR (α := BookS × Col × Str × St5) (fun x ds => ds = [dCW K x.1 x.2.1, dS x.2.2.1, dSt x.2.2.2] ∧ WfC x.1 x.2.1 ∧ x.2.2.1 ∈ letters4) (fun x => dPair (doneS x.1 x.2.1 x.2.2.1 x.2.2.2))
abbrev N_ColumnWatch_done_behind : List Str := ["self", "letter", "state", "name", "has_reason", "x", "present", "y", "z", "letters"]
theorem sc_ColumnWatch_done_behind : FnScope N_ColumnWatch_done_behind ["self", "letter", "state"] (defScope (inClass (top 33) 12)) := ⟨rfl, rfl, rfl, by decide +kernel, rfl, by decide +kernel, by decide +kernel⟩
theorem ok_ColumnWatch_done_behind {f : Addr} {fd : FuncData} (T : Txt K mg) (c_ColumnWatch_has : Met P w K mg base CX0 3 (He.ga K "ColumnWatch") "has" ["self", "word", "name"] (spR (R_Watch_has K))) (c_ColumnWatch_fitting : Met P w K mg base CX0 4 (He.ga K "ColumnWatch") "fitting" ["self", "letter", "state"] (spR (R_ColumnWatch_fitting K))) (F : FunD K "done_behind" "ColumnWatch.done_behind" (defArgs (inClass (top 33) 12)) (defBody (inClass (top 33) 12)) (defScope (inClass (top 33) 12)) [] [] f fd) : FnOk P w K mg base CX0 5 f fd ["self", "letter", "state"] (spR (R_ColumnWatch_done_behind K)) := by
  refine okW F sc_ColumnWatch_done_behind (by rintro ds g Q ⟨_, x, ⟨rfl, _⟩, _⟩; rfl) fun cdv A outer s H E hr => ⟨_, PSs.nox (pss_cons (ps_asg (pv 2) (k_tup (K := K) (n := 5) rfl rfl (pgs_cons (pg_name (i := 5) sc_ColumnWatch_done_behind.nd rfl (by first | exact Or.inl rfl | exact Or.inr rfl)) (pgs_cons (pg_name (i := 6) sc_ColumnWatch_done_behind.nd rfl (by first | exact Or.inl rfl | exact Or.inr rfl)) (pgs_cons (pg_name (i := 7) sc_ColumnWatch_done_behind.nd rfl (by first | exact Or.inl rfl | exact Or.inr rfl)) (pgs_cons (pg_name (i := 8) sc_ColumnWatch_done_behind.nd rfl (by first | exact Or.inl rfl | exact Or.inr rfl)) (pgs_cons (pg_name (i := 9) sc_ColumnWatch_done_behind.nd rfl (by first | exact Or.inl rfl | exact Or.inr rfl)) pgs_nil)))))))
      (pss_cons (ps_set (i := 3) sc_ColumnWatch_done_behind.nd rfl (by first | exact Or.inl rfl | exact Or.inr rfl) (pe_ix (k_ix (K := K) rfl (hu_of hr)) (pe_frz (pe_disp (pps_cons pe_str (k_fld (K := K) rfl (k_fld (K := K) rfl (pv 0))) (pps_cons pe_str (k_fld (K := K) rfl (k_fld (K := K) rfl (pv 0))) (pps_cons pe_str (k_fld (K := K) rfl (pv 0)) (pps_cons pe_str (k_fld (K := K) rfl (pv 0)) pps_nil)))) (by rfl) (by rfl) (fun z => by cases z) (by decide))) (pv 1) (fun _ _ => rfl)))
      (pss_cons (ps_if (PW.pt (pw_and (pt_val (pe_met c_ColumnWatch_has (hr.mono (by decide)) pass0 (pv 0) (pa_cons pe_str (pa_cons (pv 3) pa_nil)))) (pw_and1 (pt_not (pt_val (pe_met c_ColumnWatch_fitting (hr.mono (by decide)) pass0 (pv 0) (pa_cons (pv 1) (pa_cons (pv 2) pa_nil)))))))) (pss_one (ps_ret (pe_tup (pa_cons (pv 2) (pa_cons pe_str pa_nil))))) pss_nil)
      (pss_cons (ps_if (pt_cmpR (k_eq (K := K) rfl hr.units) (pv 1) pe_str (nomark _)) (pss_one (ps_ret (pe_tup (pa_cons (pe_tup (pa_cons (pe_ifExp (pt_cmpR (k_eq (K := K) rfl hr.units) (pv 5) pe_str (nomark _)) pe_str (pv 5)) (pa_cons (pv 6) (pa_cons (pv 7) (pa_cons (pv 8) (pa_cons (pv 9) pa_nil)))))) (pa_cons pe_str pa_nil))))) pss_nil)
      (pss_cons (ps_if (pt_cmpR (k_eq (K := K) rfl hr.units) (pv 1) pe_str (nomark _)) (pss_one (ps_ret (pe_tup (pa_cons (pe_tup (pa_cons (pv 5) (pa_cons (pv 6) (pa_cons (pe_ifExp (pt_cmpR (k_in (K := K) rfl (hu_of hr)) (pv 7) (pe_tup (pa_cons pe_str (pa_cons pe_str pa_nil))) (by rfl)) pe_str (pv 7)) (pa_cons (pv 8) (pa_cons (pv 9) pa_nil)))))) (pa_cons pe_str pa_nil))))) pss_nil)
      (pss_cons (ps_if (PW.pt (pw_or (pt_cmpR (k_nin (K := K) rfl (hu_of hr)) (pv 5) (pe_glob (v := .ref (He.ga K "HERE")) rfl T.r_HERE rfl) (by rfl)) (pw_or1 (PW.pt (pw_and (pt_cmpR (k_eq (K := K) rfl hr.units) (pv 1) pe_str (nomark _)) (pw_and1 (pt_cmpR (k_eq (K := K) rfl hr.units) (pv 6) pe_str (nomark _)))))))) (pss_one (ps_ret (pe_tup (pa_cons (pv 2) (pa_cons pe_str pa_nil))))) pss_nil)
      (pss_cons (ps_if (pt_cmpR (k_eq (K := K) rfl hr.units) (pv 1) pe_str (nomark _)) (pss_one (ps_ret (pe_tup (pa_cons (pe_tup (pa_cons (pv 5) (pa_cons pe_str (pa_cons (pv 7) (pa_cons (pv 8) (pa_cons (pv 9) pa_nil)))))) (pa_cons (pe_ifExp (PW.pt (pw_or (pt_cmpR (k_eq (K := K) rfl hr.units) (pv 6) pe_str (nomark _)) (pw_or1 (pt_cmpR (k_eq (K := K) rfl hr.units) (pv 7) pe_str (nomark _))))) pe_str pe_str) pa_nil))))) pss_nil)
      (pss_cons (ps_set (i := 4) sc_ColumnWatch_done_behind.nd rfl (by first | exact Or.inl rfl | exact Or.inr rfl) (pe_and (pe_cmpR (k_eq (K := K) rfl hr.units) (pv 6) pe_str (nomark _)) (pe_one (pe_cmpR (k_in (K := K) rfl (hu_of hr)) (pv 7) (pe_tup (pa_cons pe_str (pa_cons pe_str pa_nil))) (by rfl)))))
      (pss_one (ps_ret (pe_tup (pa_cons (pe_tup (pa_cons pe_str (pa_cons pe_str (pa_cons (pv 7) (pa_cons (pv 8) (pa_cons (pv 9) pa_nil)))))) (pa_cons (pe_ifExp (PW.pt (pw_and (pt_cmpR (k_eq (K := K) rfl hr.units) (pv 5) pe_str (nomark _)) (pw_and1 (pt_not (pt_val (pv 4)))))) pe_str pe_str) pa_nil))))))))))))), ?_⟩
  rintro ds g Q ⟨rfl, ⟨b, c, ch, ⟨x, p, y, z, l⟩⟩, ⟨rfl, wf, hch⟩, hQ⟩
  replace wf : WfC b c := wf
  replace hch : ch ∈ letters4 := hch
  replace hQ : Q (dPair (doneS b c ch ⟨x, p, y, z, l⟩)) [] := hQ
  have w1 := wf.word
  have w2 := wf.homeL
  have w3 := wf.goalL
  dsimp only
  have hnm : (nameOf c ch).length ≤ 100 := by
    unfold nameOf
    split
    · exact w1
    · split
      · exact w2
      · exact w3
  walk_at "auto"
  refine ⟨[.inr "S", .inr "C", .inr "X", .inr "Y"], [dS c.word, dS c.word, dS c.home, dS c.goal], rfl, by decide +kernel, rfl, by decide, ?_⟩
  walk_at "auto"
  refine ixA_D (x := dS (nameOf c ch)) (.im _ _) ?_ ?_
  · simp only [letters4, List.mem_cons, List.not_mem_nil, or_false] at hch
    rcases hch with rfl | rfl | rfl | rfl <;> simp [dlk, nameOf, sgLet]
  show WS (tSeq _ _) _ _ _
  refine ws_via (fun e gg => e = [some (dCW K b c), some (dS ch), some (dSt ⟨x, p, y, z, l⟩), some (dS (nameOf c ch)), none, some (dS x), some (dS p), some (dS y), some (dS z), some (dS l)] ∧ gg = [] ∧ (hasB b "again" (nameOf c ch) = true → fitting b c ch ⟨x, p, y, z, l⟩ = true)) ?_ ?_
  · walk_at "auto"
    refine ⟨(.col b c, "again", nameOf c ch), ⟨rfl, by show Str.length "again" ≤ 100; decide, hnm⟩, ?_⟩
    walk_at "auto"
    · refine ⟨(b, c, ch, ⟨x, p, y, z, l⟩), ⟨rfl, wf⟩, ?_⟩
      walk_at "auto"
      · rename_i h1 h2
        replace h1 : hasB b "again" (nameOf c ch) = true := h1
        replace h2 : fitting b c ch ⟨x, p, y, z, l⟩ = false := Bool.not_eq_true' _ |>.mp h2
        have e : doneS b c ch ⟨x, p, y, z, l⟩ = ((⟨x, p, y, z, l⟩ : St5), ("" : Str)) := by unfold doneS; exact if_pos (And.intro h1 h2)
        rw [e] at hQ
        exact hQ
      · rename_i h1 h2
        replace h2 : (!fitting b c ch ⟨x, p, y, z, l⟩) = false := h2
        exact ⟨rfl, rfl, fun _ => by simpa using h2⟩
    · rename_i h1
      replace h1 : hasB b "again" (nameOf c ch) = false := h1
      exact ⟨rfl, rfl, fun z => by rw [h1] at z; cases z⟩
  · rintro e gg ⟨rfl, rfl, hag⟩
    unfold doneS at hQ
    rw [if_neg fun z => by rw [hag z.1] at z; exact absurd z.2 (by decide)] at hQ
    clear hag
    simp only [letters4, List.mem_cons, List.not_mem_nil, or_false] at hch
    rcases hch with rfl | rfl | rfl | rfl
    · rw [if_pos rfl] at hQ
      walk_at "auto"
      all_goals (show Q _ []; (try clear T); (try clear F); (try clear hr); (try clear c_ColumnWatch_has); (try clear c_ColumnWatch_fitting); (try clear c_ColumnWatch_may_put); (try clear c_ColumnWatch_may_mark); (try clear c_ColumnWatch_may_refer); (try clear c_ColumnWatch_with_letter); (try clear c_Book___contains__); (try clear c_KindWatch_has); (try clear c_KindWatch_may_put); (try clear c_KindWatch_may_mark); (try clear c_KindWatch_with_letter); (try clear c_lacking); (try clear c_ColumnWatch_put_behind); (try clear c_ColumnWatch_turned); (try clear c_ColumnWatch_looked); (try clear c_ColumnWatch_done_behind); (try clear c_ColumnWatch_marked_behind); (simp_all [WatchS.b, sgLab, sgRow, sgSt, sgLet] <;> exact hQ))
    · rw [if_neg (by decide +kernel), if_neg (by decide +kernel)] at hQ
      walk_at "auto"
      all_goals (show Q _ []; (try clear T); (try clear F); (try clear hr); (try clear c_ColumnWatch_has); (try clear c_ColumnWatch_fitting); (try clear c_ColumnWatch_may_put); (try clear c_ColumnWatch_may_mark); (try clear c_ColumnWatch_may_refer); (try clear c_ColumnWatch_with_letter); (try clear c_Book___contains__); (try clear c_KindWatch_has); (try clear c_KindWatch_may_put); (try clear c_KindWatch_may_mark); (try clear c_KindWatch_with_letter); (try clear c_lacking); (try clear c_ColumnWatch_put_behind); (try clear c_ColumnWatch_turned); (try clear c_ColumnWatch_looked); (try clear c_ColumnWatch_done_behind); (try clear c_ColumnWatch_marked_behind); (simp_all [WatchS.b, sgLab, sgRow, sgSt, sgLet] <;> exact hQ))
    · rw [if_neg (by decide +kernel), if_neg (by decide +kernel)] at hQ
      walk_at "auto"
      all_goals (show Q _ []; (try clear T); (try clear F); (try clear hr); (try clear c_ColumnWatch_has); (try clear c_ColumnWatch_fitting); (try clear c_ColumnWatch_may_put); (try clear c_ColumnWatch_may_mark); (try clear c_ColumnWatch_may_refer); (try clear c_ColumnWatch_with_letter); (try clear c_Book___contains__); (try clear c_KindWatch_has); (try clear c_KindWatch_may_put); (try clear c_KindWatch_may_mark); (try clear c_KindWatch_with_letter); (try clear c_lacking); (try clear c_ColumnWatch_put_behind); (try clear c_ColumnWatch_turned); (try clear c_ColumnWatch_looked); (try clear c_ColumnWatch_done_behind); (try clear c_ColumnWatch_marked_behind); (simp_all [WatchS.b, sgLab, sgRow, sgSt, sgLet] <;> exact hQ))
    · rw [if_neg (by decide +kernel), if_pos rfl] at hQ
      walk_at "auto"
      all_goals (show Q _ []; (try clear T); (try clear F); (try clear hr); (try clear c_ColumnWatch_has); (try clear c_ColumnWatch_fitting); (try clear c_ColumnWatch_may_put); (try clear c_ColumnWatch_may_mark); (try clear c_ColumnWatch_may_refer); (try clear c_ColumnWatch_with_letter); (try clear c_Book___contains__); (try clear c_KindWatch_has); (try clear c_KindWatch_may_put); (try clear c_KindWatch_may_mark); (try clear c_KindWatch_with_letter); (try clear c_lacking); (try clear c_ColumnWatch_put_behind); (try clear c_ColumnWatch_turned); (try clear c_ColumnWatch_looked); (try clear c_ColumnWatch_done_behind); (try clear c_ColumnWatch_marked_behind); (simp_all [WatchS.b, sgLab, sgRow, sgSt, sgLet] <;> exact hQ))
end
end Ls
set_option Elab.async false
set_option linter.all false
set_option maxRecDepth 100000
set_option maxHeartbeats 4000000
set_option autoImplicit false
namespace Ls
open PySem PySem.Spec PyProof.Rows L2 Dl
local macro_rules | `(tactic| walk_at "nof") => `(tactic| first
  | with_reducible exact Txt.n_Column_word (by assumption)
  | with_reducible exact Txt.n_Column_home (by assumption)
  | with_reducible exact Txt.n_Column_goal (by assumption)
  | with_reducible exact Txt.n_Column_rule (by assumption)
  | with_reducible exact Txt.n_Book_open_kinds (by assumption)
  | with_reducible exact Txt.n_Book_column_rows (by assumption)
  | with_reducible exact Txt.n_Book_column_table (by assumption)
  | with_reducible exact Txt.n_Book_all_checks (by assumption)
  | with_reducible exact Txt.n_Book_own_checks (by assumption)
  | with_reducible exact Txt.n_Watch_law_book (by assumption)
  | with_reducible exact Txt.n_Watch_home (by assumption)
  | with_reducible exact Txt.n_Watch_can_mark (by assumption)
  | with_reducible exact Txt.n_Watch_sorts (by assumption)
  | with_reducible exact Txt.n_KindWatch_law_book (by assumption)
  | with_reducible exact Txt.n_KindWatch_home (by assumption)
  | with_reducible exact Txt.n_KindWatch_can_mark (by assumption)
  | with_reducible exact Txt.n_KindWatch_sorts (by assumption)
  | with_reducible exact Txt.n_ColumnWatch_law_book (by assumption)
  | with_reducible exact Txt.n_ColumnWatch_home (by assumption)
  | with_reducible exact Txt.n_ColumnWatch_can_mark (by assumption)
  | with_reducible exact Txt.n_ColumnWatch_sorts (by assumption)
  | with_reducible exact Txt.n_ColumnWatch_by (by assumption)
  | with_reducible exact Txt.n_ColumnWatch_goal (by assumption)
  | with_reducible exact Txt.n_ColumnWatch_other_column (by assumption)
  | with_reducible exact Txt.n_Weaver_watch (by assumption)
  | with_reducible exact Txt.n_Weaver_way (by assumption)
  | with_reducible exact Txt.n_Weaver_made (by assumption)
  | with_reducible exact Txt.n_Weaver_held (by assumption)
  | with_reducible exact Txt.n_Weaver_chains (by assumption)
  | with_reducible exact Txt.n_Weaver_unused (by assumption))
local macro_rules | `(tactic| walk_at "cls") => `(tactic| first
  | with_reducible exact Txt.cl_Column (by assumption)
  | with_reducible exact Txt.cl_Book (by assumption)
  | with_reducible exact Txt.cl_Watch (by assumption)
  | with_reducible exact Txt.cl_KindWatch (by assumption)
  | with_reducible exact Txt.cl_ColumnWatch (by assumption)
  | with_reducible exact Txt.cl_Weaver (by assumption))
local macro_rules | `(tactic| walk_at "dlf") => `(tactic| first
  | with_reducible exact dlf_Column_word ..
  | with_reducible exact dlf_Column_home ..
  | with_reducible exact dlf_Column_goal ..
  | with_reducible exact dlf_Column_rule ..
  | with_reducible exact dlf_Book_open_kinds ..
  | with_reducible exact dlf_Book_column_rows ..
  | with_reducible exact dlf_Book_column_table ..
  | with_reducible exact dlf_Book_all_checks ..
  | with_reducible exact dlf_Book_own_checks ..
  | with_reducible exact dlf_Watch_law_book ..
  | with_reducible exact dlf_Watch_home ..
  | with_reducible exact dlf_Watch_can_mark ..
  | with_reducible exact dlf_Watch_sorts ..
  | with_reducible exact dlf_KindWatch_law_book ..
  | with_reducible exact dlf_KindWatch_home ..
  | with_reducible exact dlf_KindWatch_can_mark ..
  | with_reducible exact dlf_KindWatch_sorts ..
  | with_reducible exact dlf_ColumnWatch_law_book ..
  | with_reducible exact dlf_ColumnWatch_home ..
  | with_reducible exact dlf_ColumnWatch_can_mark ..
  | with_reducible exact dlf_ColumnWatch_sorts ..
  | with_reducible exact dlf_ColumnWatch_by ..
  | with_reducible exact dlf_ColumnWatch_goal ..
  | with_reducible exact dlf_ColumnWatch_other_column ..
  | with_reducible exact dlf_Weaver_watch ..
  | with_reducible exact dlf_Weaver_way ..
  | with_reducible exact dlf_Weaver_made ..
  | with_reducible exact dlf_Weaver_held ..
  | with_reducible exact dlf_Weaver_chains ..
  | with_reducible exact dlf_Weaver_unused ..)
local macro_rules | `(tactic| walk_at "len") => `(tactic| first | decide | (simp; done) | omega | (simp; omega) | (simp only [PySem.Str.length_append, sizeLine_eq, len_empty, len_space]; omega))
local macro_rules | `(tactic| walk_at "go1") => `(tactic| first
  | with_reducible refine ws_seq ?_
  | with_reducible refine ws_set ?_
  | with_reducible refine ws_ret ?_
  | with_reducible refine ws_if ?_
  | with_reducible refine ws_drop ?_
  | with_reducible refine ws_next ?_
  | with_reducible refine ws_retN ?_
  | with_reducible refine ws_cont ?_
  | with_reducible refine ws_brk ?_
  | with_reducible refine ws_asg ?_
  | with_reducible refine ye_var (by with_unfolding_all rfl) ?_
  | with_reducible refine ye_c ?_
  | with_reducible refine ye_op ?_
  | with_reducible refine ye_cb ?_
  | with_reducible refine ye_bm ?_
  | with_reducible refine ye_m1 ?_
  | with_reducible refine ye_if ?_
  | with_reducible refine ye_andV ?_
  | with_reducible refine ye_orV ?_
  | with_reducible refine ye_notV ?_
  | with_reducible refine ye_join ?_
  | with_reducible refine ye_fmt ?_
  | with_reducible refine ye_fld ?_
  | with_reducible refine ye_items ?_
  | with_reducible refine ye_sl ?_
  | with_reducible refine ye_tup ?_
  | with_reducible refine yo_none ?_
  | with_reducible refine yo_some ?_
  | with_reducible refine yt_B ?_
  | with_reducible refine yt_test ?_
  | with_reducible refine yt_and ?_
  | with_reducible refine yt_or ?_
  | with_reducible refine yt_not ?_
  | with_reducible refine yt_yes ?_
  | with_reducible refine ya_nil ?_
  | with_reducible refine ya_cons ?_
  | with_reducible refine ya_starA ?_
  | with_reducible refine yj_nil ?_
  | with_reducible refine yj_cons ?_
  | with_reducible refine wg_name ?_
  | with_reducible refine eqA_S ?_
  | with_reducible refine neA_S ?_
  | with_reducible refine eqA_I ?_
  | with_reducible refine neA_I ?_
  | with_reducible refine addA_I ?_
  | with_reducible refine rd_I0 ?_
  | with_reducible refine isi_SS ?_
  | with_reducible refine rc_strS ?_
  | with_reducible refine rd_isN ?_
  | with_reducible refine rd_notN ?_
  | with_reducible refine chain_I ?_
  | with_reducible refine rc_lenS (by walk_at "len") ?_
  | with_reducible refine inA_S ?_
  | with_reducible refine ws_fld1 (by with_unfolding_all rfl) (by walk_at "cls") (by walk_at "nof") (by decide +kernel) (by decide +kernel) ?_
  | with_reducible refine ⟨_, _, _, _, OV.im _ _ _, by walk_at "cls", by walk_at "nof", by walk_at "dlf", ?_⟩
  | with_reducible refine ⟨_, _, _, _, OV.mu _ _ _ _ (List.mem_singleton.mpr rfl), by walk_at "cls", by walk_at "nof", by with_unfolding_all rfl, ?_⟩
  | with_reducible refine ⟨(rfl : ([_] : G) = _), ?_⟩
  | with_reducible refine ⟨_, _, _, rfl, rfl, rfl, ?_⟩
  | refine iteT ?_
  | refine iteF ?_
  | with_reducible refine ⟨_, rfl, ?_⟩
  | with_reducible refine ⟨(by walk_at "len" : List.length _ ≤ _), ?_⟩
  | with_reducible refine ⟨(by walk_at "len" : PySem.Str.length _ ≤ _), ?_⟩)
local macro_rules | `(tactic| walk_at "go") => `(tactic| repeat walk_at "go1")
local macro_rules | `(tactic| walk_at "end") => `(tactic| first | rfl | exact ⟨rfl, rfl⟩ | exact ⟨_, rfl, rfl⟩ | exact ⟨_, _, rfl, rfl⟩)
local macro_rules | `(tactic| walk_at "auto1") => `(tactic| first | walk_at "go1" | walk_at "own" | refine iteT' (by decide +kernel) ?_ | refine iteF' (by decide +kernel) ?_ | refine iteB (fun h => ?_) (fun h => ?_))
local macro_rules | `(tactic| walk_at "auto") => `(tactic| repeat' walk_at "auto1")
local macro_rules | `(tactic| walk_at "own") => `(tactic| first
  | with_reducible refine rd_bookF ?_
  | with_reducible refine rd_bookT ?_
  | with_reducible refine ⟨_, _, OV.im _ _ _, by decide +kernel, ?_⟩
  | with_reducible refine ixA_L (.t _) (by with_unfolding_all rfl) ?_
  | with_reducible refine ixA_L (.r _ _ _) (by with_unfolding_all rfl) ?_
  | with_reducible refine wg_tupN (by repeat constructor) ⟨_, rfl, rfl, rfl, ?_⟩
  | with_reducible refine ye_lackC ?_
  | with_reducible refine inA_b2F ?_
  | with_reducible refine inA_b2T ?_
  | with_reducible refine inA_SF ?_
  | with_reducible refine inA_ST ?_
  | with_reducible refine inA_hereF (by assumption) ?_
  | with_reducible refine inA_hereT (by assumption) ?_
  | with_reducible refine ye_disp ?_
  | with_reducible refine yp_cons ?_
  | with_reducible refine yp_nil ?_
  | with_reducible refine ya_star ?_
  | refine ye_lack (by with_unfolding_all rfl) (by show 1 ≠ 0; decide) ?_
  | refine ye_methQ ?_)
section
variable {P : Program} {w : World} {K : PySem.W.Frag} {mg : Str → Option Value} {base : Heap}
theorem ok_letters {b : BookS} {c : Col} {a : Nat} (h : a ∈ (WatchS.sorts (.col b c)).cps.toList) : s1 a ∈ (["S", "C", "X", "Y"] : List Str) := by
  have h1 : ∀ a ∈ ("SXY" : Str).cps.toList, s1 a ∈ (["S", "C", "X", "Y"] : List Str) := by decide +kernel
  have h2 : ∀ a ∈ ("CXY" : Str).cps.toList, s1 a ∈ (["S", "C", "X", "Y"] : List Str) := by decide +kernel
  unfold WatchS.sorts at h
  cases hf : c.fall with
  | true => simp only [hf, if_true] at h; exact h1 a h
  | false => simp only [hf, Bool.false_eq_true, if_false] at h; exact h2 a h
noncomputable def R_ColumnWatch_outcome (K : PySem.W.Frag) (n : Nat) : RS := pureR (α := BookS × Col × Lab × St5) (fun x ds => ds = [dCW K x.1 x.2.1, dLab n x.2.2.1, dSt x.2.2.2] ∧ WfC x.1 x.2.1 ∧ okLab (WatchS.sorts (.col x.1 x.2.1)) x.2.2.1 ∧ isL x.2.2.2.l) (fun x => dOutC (outC x.1 x.2.1 x.2.2.1 x.2.2.2))
abbrev N_ColumnWatch_outcome : List Str := ["self", "label", "state", "behind", "left"]
theorem sc_ColumnWatch_outcome : FnScope N_ColumnWatch_outcome ["self", "label", "state"] (defScope (inClass (top 33) 5)) := ⟨rfl, rfl, rfl, by decide +kernel, rfl, by decide +kernel, by decide +kernel⟩
theorem ok_ColumnWatch_outcome {n : Nat} (h1n : 1 ≤ n) {f : Addr} {fd : FuncData} (T : Txt K mg) (c_ColumnWatch_put_behind : Met P w K mg base CX0 5 (He.ga K "ColumnWatch") "put_behind" ["self", "row", "owner", "state"] (spR (R_ColumnWatch_put_behind K))) (c_ColumnWatch_turned : Met P w K mg base CX0 5 (He.ga K "ColumnWatch") "turned" ["self", "owner", "state"] (spR (R_ColumnWatch_turned K))) (c_ColumnWatch_looked : Met P w K mg base CX0 5 (He.ga K "ColumnWatch") "looked" ["self", "letter", "state"] (spR (R_ColumnWatch_looked K))) (c_ColumnWatch_done_behind : Met P w K mg base CX0 5 (He.ga K "ColumnWatch") "done_behind" ["self", "letter", "state"] (spR (R_ColumnWatch_done_behind K))) (c_ColumnWatch_marked_behind : Met P w K mg base CX0 4 (He.ga K "ColumnWatch") "marked_behind" ["self", "label", "state"] (spR (R_ColumnWatch_marked_behind K))) (c_lacking : Lk P w K mg base 1 "lacking") (F : FunD K "outcome" "ColumnWatch.outcome" (defArgs (inClass (top 33) 5)) (defBody (inClass (top 33) 5)) (defScope (inClass (top 33) 5)) [] [] f fd) : FnN n P w K mg base CX0 6 f fd ["self", "label", "state"] (spR (R_ColumnWatch_outcome K n)) := by
  refine okN F sc_ColumnWatch_outcome (by rintro ds g Q ⟨_, x, ⟨rfl, _⟩, _⟩; rfl) fun cdv A outer s H E hr => ⟨_, PSsn.nox (psn_cons (psn_if (pt_cmpR (k_eq (K := K) rfl hr.units) (pe_ix (k_ix (K := K) rfl (hu_of hr)) (pv 1) pe_int (fun _ _ => rfl)) pe_str (nomark _)) (PSsn.of (pss_one (ps_set (i := 3) sc_ColumnWatch_outcome.nd rfl (by first | exact Or.inl rfl | exact Or.inr rfl) (pe_met c_ColumnWatch_put_behind (hr.mono (by decide)) pass0 (pv 0) (pa_cons (pe_ix (k_ix (K := K) rfl (hu_of hr)) (pv 1) pe_int (fun _ _ => rfl)) (pa_cons (pe_ix (k_ix (K := K) rfl (hu_of hr)) (pv 1) pe_int (fun _ _ => rfl)) (pa_cons (pv 2) pa_nil))))))) (psn_one (psn_if (pt_cmpR (k_eq (K := K) rfl hr.units) (pe_ix (k_ix (K := K) rfl (hu_of hr)) (pv 1) pe_int (fun _ _ => rfl)) pe_str (nomark _)) (PSsn.of (pss_one (ps_set (i := 3) sc_ColumnWatch_outcome.nd rfl (by first | exact Or.inl rfl | exact Or.inr rfl) (pe_met c_ColumnWatch_turned (hr.mono (by decide)) pass0 (pv 0) (pa_cons (pe_ix (k_ix (K := K) rfl (hu_of hr)) (pv 1) pe_int (fun _ _ => rfl)) (pa_cons (pv 2) pa_nil)))))) (psn_one (psn_if (pt_cmpR (k_eq (K := K) rfl hr.units) (pe_ix (k_ix (K := K) rfl (hu_of hr)) (pv 1) pe_int (fun _ _ => rfl)) pe_str (nomark _)) (PSsn.of (pss_one (ps_set (i := 3) sc_ColumnWatch_outcome.nd rfl (by first | exact Or.inl rfl | exact Or.inr rfl) (pe_met c_ColumnWatch_looked (hr.mono (by decide)) pass0 (pv 0) (pa_cons (pe_ix (k_ix (K := K) rfl (hu_of hr)) (pv 1) pe_int (fun _ _ => rfl)) (pa_cons (pv 2) pa_nil)))))) (psn_one (psn_if (pt_cmpR (k_in (K := K) rfl (hu_of hr)) (pe_ix (k_ix (K := K) rfl (hu_of hr)) (pv 1) pe_int (fun _ _ => rfl)) (pe_tup (pa_cons pe_str (pa_cons pe_str pa_nil))) (by rfl)) (psn_cons (PSn.of (ps_if (pt_cmpR (k_nin (K := K) rfl (hu_of hr)) (pe_ix (k_ix (K := K) rfl (hu_of hr)) (pv 1) pe_int (fun _ _ => rfl)) (pe_ix (k_ix (K := K) rfl (hu_of hr)) (pv 2) pe_int (fun _ _ => rfl)) (by rfl)) (pss_one (ps_ret pe_non)) pss_nil))
      (psn_cons (psn_set (i := 4) sc_ColumnWatch_outcome.nd rfl (by first | exact Or.inl rfl | exact Or.inr rfl) (pen_tup (pan_star (K := K) rfl (pe_slice (k_sl (K := K) rfl) (pv 2) po_none (po_some pe_int)) (pan_cons (pen_lack (i := 1) c_lacking (hr.mono (by decide)) rfl pass0 (pe_ix (k_ix (K := K) rfl (hu_of hr)) (pv 2) pe_int (fun _ _ => rfl)) (by rfl) (.inl rfl)) (PAn.of pa_nil)))))
      (PSsn.of (pss_one (ps_ret (pe_ifExp (pt_cmpR (k_eq (K := K) rfl hr.units) (pe_ix (k_ix (K := K) rfl (hu_of hr)) (pv 1) pe_int (fun _ _ => rfl)) pe_str (nomark _)) (pe_tup (pa_cons (pv 4) (pa_cons pe_str pa_nil))) (pe_met c_ColumnWatch_done_behind (hr.mono (by decide)) pass0 (pv 0) (pa_cons (pe_ix (k_ix (K := K) rfl (hu_of hr)) (pv 1) pe_int (fun _ _ => rfl)) (pa_cons (pv 4) pa_nil))))))))) (PSsn.of (pss_one (ps_set (i := 3) sc_ColumnWatch_outcome.nd rfl (by first | exact Or.inl rfl | exact Or.inr rfl) (pe_met c_ColumnWatch_marked_behind (hr.mono (by decide)) pass0 (pv 0) (pa_cons (pv 1) (pa_cons (pv 2) pa_nil)))))))))))))
      (PSsn.of (pss_one (ps_ret (pe_ifExp (pt_cmpR op_isNn (pv 3) pe_non (nomark _)) pe_non (pe_tup (pa_cons (pv 3) (pa_cons pe_str pa_nil)))))))), ?_⟩
  rintro ds g Q ⟨rfl, ⟨b, c, lab, ⟨x, p, y, z, l⟩⟩, ⟨rfl, wf, hlab, hl⟩, hQ⟩
  replace wf : WfC b c := wf
  replace hlab : okLab (WatchS.sorts (.col b c)) lab := hlab
  replace hl : isL l := hl
  replace hQ : Q (dOutC (outC b c lab ⟨x, p, y, z, l⟩)) [] := hQ
  have hll := isL_len hl
  dsimp only
  cases lab with
  | put r o =>
    dsimp only [dLab]
    walk_at "auto"
    refine ⟨(b, c, r, o, ⟨x, p, y, z, l⟩), ⟨rfl, wf⟩, ?_⟩
    replace hQ : Q (dOutC ((putBehind b c r o ⟨x, p, y, z, l⟩).map (·, ""))) [] := hQ
    dsimp only
    generalize putBehind b c r o ⟨x, p, y, z, l⟩ = o2 at hQ ⊢
    cases o2 <;> (walk_at "auto" <;> exact hQ)
  | turn o =>
    dsimp only [dLab]
    walk_at "auto"
    refine ⟨(b, c, o, ⟨x, p, y, z, l⟩), ⟨rfl, wf⟩, ?_⟩
    replace hQ : Q (dOutC ((turnedS b c o ⟨x, p, y, z, l⟩).map (·, ""))) [] := hQ
    dsimp only
    generalize turnedS b c o ⟨x, p, y, z, l⟩ = o2 at hQ ⊢
    cases o2 <;> (walk_at "auto" <;> exact hQ)
  | mark r =>
    dsimp only [dLab]
    walk_at "auto"
    refine ⟨(b, c, false, r, ⟨x, p, y, z, l⟩), ⟨rfl, wf⟩, ?_⟩
    replace hQ : Q (dOutC ((markedS b c false r ⟨x, p, y, z, l⟩).map (·, ""))) [] := hQ
    dsimp only
    generalize markedS b c false r ⟨x, p, y, z, l⟩ = o2 at hQ ⊢
    cases o2 <;> (walk_at "auto" <;> exact hQ)
  | strike =>
    dsimp only [dLab]
    walk_at "auto"
    refine ⟨(b, c, true, "x", ⟨x, p, y, z, l⟩), ⟨rfl, wf⟩, ?_⟩
    replace hQ : Q (dOutC ((markedS b c true "x" ⟨x, p, y, z, l⟩).map (·, ""))) [] := hQ
    dsimp only
    generalize markedS b c true "x" ⟨x, p, y, z, l⟩ = o2 at hQ ⊢
    cases o2 <;> (walk_at "auto" <;> exact hQ)
  | hand w ch =>
    dsimp only [dLab]
    obtain ⟨hw, a, rfl, ha⟩ := hlab
    have h4 := ok_letters ha
    simp only [listWords, List.mem_cons, List.not_mem_nil, or_false] at hw
    rcases hw with rfl | rfl | rfl
    · walk_at "auto"
      refine ⟨(b, c, a, ⟨x, p, y, z, l⟩), ⟨rfl, wf, hl⟩, ?_⟩
      replace hQ : Q (dOutC ((lookedS b c (s1 a) ⟨x, p, y, z, l⟩).map (·, ""))) [] := hQ
      dsimp only
      generalize lookedS b c (s1 a) ⟨x, p, y, z, l⟩ = o2 at hQ ⊢
      cases o2 <;> (walk_at "auto" <;> exact hQ)
    · walk_at "auto"
      · show Q _ []
        rename_i hin
        replace hin : (!decide (a ∈ l.cps.toList)) = true := hin
        have hh : hasL (s1 a) l = false := by
          show decide (a ∈ l.cps.toList) = false
          simpa using hin
        simp only [outC, hh, sgLab, if_true, if_false] at hQ
        exact hQ
      · rename_i hin
        replace hin : (!decide (a ∈ l.cps.toList)) = false := hin
        have hh : hasL (s1 a) l = true := by
          show decide (a ∈ l.cps.toList) = true
          simpa using hin
        refine ⟨_, .tup _ (by show ¬ (HT.sIx 5 0 none = 0 ∧ HT.sIx 5 5 (some 4) = 5); decide), ?_⟩
        refine ⟨_, .t _, ?_⟩
        walk_at "auto"
        refine ⟨by show 5 ≤ 1000000; decide, ?_⟩
        walk_at "auto"
        refine ⟨(b, c, s1 a, ⟨x, p, y, z, lackS l (s1 a)⟩), ⟨rfl, wf, h4⟩, ?_⟩
        show Q _ []
        simp only [outC, hh, sgLab, if_true, if_false, Bool.true_eq_false] at hQ
        exact hQ
    · walk_at "auto"
      · show Q _ []
        rename_i hin
        replace hin : (!decide (a ∈ l.cps.toList)) = true := hin
        have hh : hasL (s1 a) l = false := by
          show decide (a ∈ l.cps.toList) = false
          simpa using hin
        simp only [outC, hh, sgLab, if_true, if_false] at hQ
        exact hQ
      · rename_i hin
        replace hin : (!decide (a ∈ l.cps.toList)) = false := hin
        have hh : hasL (s1 a) l = true := by
          show decide (a ∈ l.cps.toList) = true
          simpa using hin
        refine ⟨_, .tup _ (by show ¬ (HT.sIx 5 0 none = 0 ∧ HT.sIx 5 5 (some 4) = 5); decide), ?_⟩
        refine ⟨_, .t _, ?_⟩
        walk_at "auto"
        refine ⟨by show 5 ≤ 1000000; decide, ?_⟩
        walk_at "auto"
        show Q _ []
        simp only [outC, hh, sgLab, if_true, if_false, Bool.true_eq_false] at hQ
        exact hQ
noncomputable def otherP (b : BookS) (c d : Col) : Bool := decide (d.home = c.home) && d.fall && !decide (d.word = c.word) && decide (d.goal ∈ markable b)
abbrev fs_CW6 : List Str := ["law_book", "home", "can_mark", "sorts", "by", "goal"]
noncomputable abbrev fldsC6 (K : PySem.W.Frag) (b : BookS) (c : Col) : List D := [dBook K b, dS c.home, .lst ((markable b).map dS), dS "X", dCol K c, dS c.goal]
noncomputable def R_ColumnWatch_first_other (K : PySem.W.Frag) : RS := detR (α := Addr × BookS × Col) (fun x ds g => ds = [.v (.ref x.1)] ∧ g = [(x.1, .obj (He.ga K "ColumnWatch") fs_CW6 (fldsC6 K x.2.1 x.2.2))] ∧ WfC x.2.1 x.2.2) (fun x => dOpt K (otherC x.2.1 x.2.2))
  (fun x => [(x.1, .obj (He.ga K "ColumnWatch") fs_CW6 (fldsC6 K x.2.1 x.2.2))])
abbrev N_ColumnWatch_first_other : List Str := ["self", "column"]
theorem sc_ColumnWatch_first_other : FnScope N_ColumnWatch_first_other ["self"] (defScope (inClass (top 33) 4)) := ⟨rfl, rfl, rfl, by decide +kernel, rfl, by decide +kernel, by decide +kernel⟩
theorem ok_ColumnWatch_first_other {f : Addr} {fd : FuncData} (T : Txt K mg)  (F : FunD K "first_other" "ColumnWatch.first_other" (defArgs (inClass (top 33) 4)) (defBody (inClass (top 33) 4)) (defScope (inClass (top 33) 4)) [] [] f fd) : FnOk P w K mg base CX0 1 f fd ["self"] (spR (R_ColumnWatch_first_other K)) := by
  refine okW F sc_ColumnWatch_first_other (by rintro ds g Q ⟨x, ⟨rfl, _⟩, _⟩; rfl) fun cdv A outer s H E hr => ⟨_, PSs.nox (pss_cons (ps_for PassesOwn.never rfl (pi_values (k_fld (K := K) rfl (k_fld (K := K) rfl (pv 0)))) (pg_name (i := 1) sc_ColumnWatch_first_other.nd rfl (by first | exact Or.inl rfl | exact Or.inr rfl)) (pss_one (ps_if (PW.pt (pw_and (pt_cmpR (k_eq (K := K) rfl hr.units) (k_fld (K := K) rfl (pv 1)) (k_fld (K := K) rfl (pv 0)) (nomark _)) (pw_and (pt_cmpR (k_eq (K := K) rfl hr.units) (k_fld (K := K) rfl (pv 1)) (pe_glob (v := .str "fall") rfl T.s_FALL.choose_spec ⟨_, rfl⟩) (nomark _)) (pw_and1 (pt_cmpR (k_ne (K := K) rfl hr.units) (k_fld (K := K) rfl (pv 1)) (k_fld (K := K) rfl (k_fld (K := K) rfl (pv 0))) (nomark _)))))) (pss_one (ps_if (pt_cmpR (k_in (K := K) rfl (hu_of hr)) (k_fld (K := K) rfl (pv 1)) (k_fld (K := K) rfl (pv 0)) (by rfl)) (pss_one (ps_ret (pe_frz (pv 1)))) pss_nil)) pss_nil)))
      (pss_one (ps_ret pe_non))), ?_⟩
  rintro ds g Q ⟨⟨a, b, c⟩, ⟨rfl, rfl, wf⟩, hQ⟩
  replace wf : WfC b c := wf
  dsimp only at hQ ⊢
  walk_at "auto"
  refine ws_for (yi_values ?_)
  walk_at "auto"
  refine ⟨_, _, rfl, fun i e gg => ∃ x1, e = [some (.v (.ref a)), x1] ∧ gg = [(a, .obj (He.ga K "ColumnWatch") fs_CW6 (fldsC6 K b c))] ∧ ∀ d ∈ b.cc.take i, otherP b c d = false, ⟨none, rfl, rfl, by simp⟩, fun _ _ _ _ c hc => by simp at hc, ?_, ?_⟩
  · rintro i d e gg hd ⟨x1, rfl, rfl, hno⟩
    obtain ⟨d, hi, rfl⟩ := map_get hd
    have step : otherP b c d = false → ∀ d ∈ b.cc.take (i + 1), otherP b c d = false := fun h d2 h2 => by
      rw [take_succ' hi, List.mem_append] at h2
      rcases h2 with h2 | h2
      · exact hno d2 h2
      · simp only [List.mem_cons, List.not_mem_nil, or_false] at h2
        subst h2; exact h
    have hr2 : decide (d.rule = "fall") = d.fall := by unfold Col.rule; cases d.fall <;> decide +kernel
    walk_at "auto"
    · rename_i h1 h2 h3
      refine inA_L (neg := false) (.l _ _ (.im _)) rfl ?_
      by_cases h4 : d.goal ∈ markable b
      · rw [decide_eq_true h4]
        walk_at "auto"
        refine ye_nofrz ?_
        walk_at "auto"
        have hp : otherP b c d = true := by
          rw [hr2] at h2
          simp_all [otherP]
        have hf : otherC b c = some d := by
          obtain ⟨hlt, _⟩ := List.getElem?_eq_some_iff.mp hi
          show b.cc.find? (otherP b c) = some d
          rw [← List.take_append_drop i b.cc, List.find?_append, List.find?_eq_none.mpr (fun x hx => by simp [hno x hx]), Option.none_or, List.drop_eq_getElem_cons hlt, show b.cc[i] = d from by simpa [hlt] using hi, List.find?_cons_of_pos hp]
        rw [hf] at hQ
        exact hQ
      · rw [decide_eq_false h4]
        walk_at "auto"
        exact step (by simp [otherP, h4])
    · rename_i h1 h2 h3
      exact step (by simp_all [otherP])
    · rename_i h1 h2
      rw [hr2] at h2
      exact step (by simp_all [otherP])
    · rename_i h1
      exact step (by simp_all [otherP])
  · rintro e gg ⟨x1, rfl, rfl, hno⟩
    rw [List.length_map, List.take_length] at hno
    walk_at "auto"
    have hf : otherC b c = none := List.find?_eq_none.mpr (fun x hx => by have := hno x hx; unfold otherP at this; simp [this])
    rw [hf] at hQ
    exact hQ
noncomputable def R_ColumnWatch___init__ (K : PySem.W.Frag) : RS := detR (α := Addr × BookS × Col) (fun x ds g => ds = [.v (.ref x.1), dBook K x.2.1, dCol K x.2.2] ∧ g = [(x.1, .obj (He.ga K "ColumnWatch") [] [])] ∧ WfC x.2.1 x.2.2) (fun _ => dN)
  (fun x => [(x.1, .obj (He.ga K "ColumnWatch") fs_ColumnWatch [dBook K x.2.1, dS x.2.2.home, .lst ((markable x.2.1).map dS), dS (WatchS.sorts (.col x.2.1 x.2.2)), dCol K x.2.2, dS x.2.2.goal, dOpt K (otherC x.2.1 x.2.2)])])
abbrev N_ColumnWatch___init__ : List Str := ["self", "book", "column", "__class__"]
theorem sc_ColumnWatch___init__ : NdefX.NScope N_ColumnWatch___init__ ["self", "book", "column"] ["__class__"] (defScope (inClass (top 33) 0)) := NdefX.nscope_by (by decide +kernel)
theorem ok_ColumnWatch___init__ {f f2 : Addr} {fd fd2 : FuncData} (T : Txt K mg) (c_ColumnWatch_first_other : Met P w K mg base CX0 1 (He.ga K "ColumnWatch") "first_other" ["self"] (spR (R_ColumnWatch_first_other K))) (F : SupD P K "__init__" "ColumnWatch.__init__" (defArgs (inClass (top 33) 0)) (defBody (inClass (top 33) 0)) (defScope (inClass (top 33) 0)) (He.ga K "ColumnWatch") f2 f fd) (F2 : FnOk P w K mg base CX0 2 f2 fd2 ["self", "book", "home"] (spR (R_Watch___init__ K))) (hb2 : Binds K fd2 ["self", "book", "home"] []) : FnOk P w K mg base CX0 3 f fd ["self", "book", "column"] (spR (R_ColumnWatch___init__ K)) := by
  refine okS (k := 2) F sc_ColumnWatch___init__ T.f_super (by decide +kernel) rfl rfl (by rintro ds g Q ⟨x, ⟨rfl, _⟩, _⟩; rfl) F2 hb2 (by decide) (fun cda cc A outer s H E hr => ⟨_, _, (pa_cons (pv 1) (pa_cons (k_fld (K := K) rfl (pv 2)) pa_nil)), PSs.nox (pss_cons (k_sfld (K := K) rfl (pv 0) (pv 2))
      (pss_cons (k_sfld (K := K) rfl (pv 0) (k_fld (K := K) rfl (pv 2)))
      (pss_cons (k_sfld (K := K) rfl (pv 0) (pe_met0 c_ColumnWatch_first_other (hr.mono (by decide)) pass0 (pv 0)))
      (pss_one (k_sfld (K := K) rfl (pv 0) (pe_ifExp (pt_cmpR (k_eq (K := K) rfl hr.units) (k_fld (K := K) rfl (pv 2)) (pe_glob (v := .str "fall") rfl T.s_FALL.choose_spec ⟨_, rfl⟩) (nomark _)) pe_str pe_str)))))), ?_⟩) (fun _ => rfl) (fun _ => rfl) (fun _ => ⟨_, rfl⟩) (fun env h => by unfold interactive; rw [h]; rfl) (fun _ => rfl)
  rintro ds g Q ⟨⟨a, b, c⟩, ⟨rfl, rfl, wf⟩, hQ⟩
  replace wf : WfC b c := wf
  dsimp only at hQ ⊢
  refine ws_seq (ws_sup rfl (List.mem_singleton.mpr rfl) ?_)
  have hr2 : decide (c.rule = "fall") = c.fall := by unfold Col.rule; cases c.fall <;> decide +kernel
  walk_at "auto"
  refine ⟨[(a, .obj (He.ga K "ColumnWatch") [] [])], [], rfl, (a, false, b, c.home), ⟨rfl, rfl, wf.toWfB⟩, ?_⟩
  simp only [Bool.false_eq_true, if_false, List.append_nil]
  walk_at "auto"
  refine ye_meth ?_
  walk_at "auto"
  refine ⟨_, _, .mu _ _ _ _ (List.mem_singleton.mpr rfl), by decide +kernel, ?_⟩
  walk_at "auto"
  refine ⟨[(a, .obj (He.ga K "ColumnWatch") fs_CW6 (fldsC6 K b c))], [], rfl, (a, b, c), ⟨rfl, rfl, wf⟩, ?_⟩
  refine ⟨rfl, ?_⟩
  dsimp only
  refine ws_fldO ?_
  walk_at "auto"
  · rename_i h1
    rw [hr2] at h1
    refine ⟨a, _, _, _, 3, rfl, List.mem_singleton.mpr rfl, T.cl_ColumnWatch, T.n_ColumnWatch_sorts, by decide +kernel, by decide +kernel, by decide, ?_⟩
    show Q dN (setG [(a, _)] a _)
    rw [setG_one]
    have hs : WatchS.sorts (.col b c) = "SXY" := by simp only [WatchS.sorts, h1, if_true]
    rw [hs] at hQ
    exact hQ
  · rename_i h1
    rw [hr2] at h1
    refine ⟨a, _, _, _, 3, rfl, List.mem_singleton.mpr rfl, T.cl_ColumnWatch, T.n_ColumnWatch_sorts, by decide +kernel, by decide +kernel, by decide, ?_⟩
    show Q dN (setG [(a, _)] a _)
    rw [setG_one]
    have hs : WatchS.sorts (.col b c) = "CXY" := by simp only [WatchS.sorts, h1, Bool.false_eq_true, if_false]
    rw [hs] at hQ
    exact hQ
end
end Ls
set_option Elab.async false
set_option linter.all false
set_option maxRecDepth 100000
set_option maxHeartbeats 4000000
set_option autoImplicit false
namespace Ls
open PySem PySem.Spec PyProof.Rows L2 Dl
local macro_rules | `(tactic| walk_at "nof") => `(tactic| first
  | with_reducible exact Txt.n_Column_word (by assumption)
  | with_reducible exact Txt.n_Column_home (by assumption)
  | with_reducible exact Txt.n_Column_goal (by assumption)
  | with_reducible exact Txt.n_Column_rule (by assumption)
  | with_reducible exact Txt.n_Book_open_kinds (by assumption)
  | with_reducible exact Txt.n_Book_column_rows (by assumption)
  | with_reducible exact Txt.n_Book_column_table (by assumption)
  | with_reducible exact Txt.n_Book_all_checks (by assumption)
  | with_reducible exact Txt.n_Book_own_checks (by assumption)
  | with_reducible exact Txt.n_Watch_law_book (by assumption)
  | with_reducible exact Txt.n_Watch_home (by assumption)
  | with_reducible exact Txt.n_Watch_can_mark (by assumption)
  | with_reducible exact Txt.n_Watch_sorts (by assumption)
  | with_reducible exact Txt.n_KindWatch_law_book (by assumption)
  | with_reducible exact Txt.n_KindWatch_home (by assumption)
  | with_reducible exact Txt.n_KindWatch_can_mark (by assumption)
  | with_reducible exact Txt.n_KindWatch_sorts (by assumption)
  | with_reducible exact Txt.n_ColumnWatch_law_book (by assumption)
  | with_reducible exact Txt.n_ColumnWatch_home (by assumption)
  | with_reducible exact Txt.n_ColumnWatch_can_mark (by assumption)
  | with_reducible exact Txt.n_ColumnWatch_sorts (by assumption)
  | with_reducible exact Txt.n_ColumnWatch_by (by assumption)
  | with_reducible exact Txt.n_ColumnWatch_goal (by assumption)
  | with_reducible exact Txt.n_ColumnWatch_other_column (by assumption)
  | with_reducible exact Txt.n_Weaver_watch (by assumption)
  | with_reducible exact Txt.n_Weaver_way (by assumption)
  | with_reducible exact Txt.n_Weaver_made (by assumption)
  | with_reducible exact Txt.n_Weaver_held (by assumption)
  | with_reducible exact Txt.n_Weaver_chains (by assumption)
  | with_reducible exact Txt.n_Weaver_unused (by assumption))
local macro_rules | `(tactic| walk_at "cls") => `(tactic| first
  | with_reducible exact Txt.cl_Column (by assumption)
  | with_reducible exact Txt.cl_Book (by assumption)
  | with_reducible exact Txt.cl_Watch (by assumption)
  | with_reducible exact Txt.cl_KindWatch (by assumption)
  | with_reducible exact Txt.cl_ColumnWatch (by assumption)
  | with_reducible exact Txt.cl_Weaver (by assumption))
local macro_rules | `(tactic| walk_at "dlf") => `(tactic| first
  | with_reducible exact dlf_Column_word ..
  | with_reducible exact dlf_Column_home ..
  | with_reducible exact dlf_Column_goal ..
  | with_reducible exact dlf_Column_rule ..
  | with_reducible exact dlf_Book_open_kinds ..
  | with_reducible exact dlf_Book_column_rows ..
  | with_reducible exact dlf_Book_column_table ..
  | with_reducible exact dlf_Book_all_checks ..
  | with_reducible exact dlf_Book_own_checks ..
  | with_reducible exact dlf_Watch_law_book ..
  | with_reducible exact dlf_Watch_home ..
  | with_reducible exact dlf_Watch_can_mark ..
  | with_reducible exact dlf_Watch_sorts ..
  | with_reducible exact dlf_KindWatch_law_book ..
  | with_reducible exact dlf_KindWatch_home ..
  | with_reducible exact dlf_KindWatch_can_mark ..
  | with_reducible exact dlf_KindWatch_sorts ..
  | with_reducible exact dlf_ColumnWatch_law_book ..
  | with_reducible exact dlf_ColumnWatch_home ..
  | with_reducible exact dlf_ColumnWatch_can_mark ..
  | with_reducible exact dlf_ColumnWatch_sorts ..
  | with_reducible exact dlf_ColumnWatch_by ..
  | with_reducible exact dlf_ColumnWatch_goal ..
  | with_reducible exact dlf_ColumnWatch_other_column ..
  | with_reducible exact dlf_Weaver_watch ..
  | with_reducible exact dlf_Weaver_way ..
  | with_reducible exact dlf_Weaver_made ..
  | with_reducible exact dlf_Weaver_held ..
  | with_reducible exact dlf_Weaver_chains ..
  | with_reducible exact dlf_Weaver_unused ..)
local macro_rules | `(tactic| walk_at "len") => `(tactic| first | decide | (simp; done) | omega | (simp; omega) | (simp only [PySem.Str.length_append, sizeLine_eq, len_empty, len_space]; omega))
local macro_rules | `(tactic| walk_at "go1") => `(tactic| first
  | with_reducible refine ws_seq ?_
  | with_reducible refine ws_set ?_
  | with_reducible refine ws_ret ?_
  | with_reducible refine ws_if ?_
  | with_reducible refine ws_drop ?_
  | with_reducible refine ws_next ?_
  | with_reducible refine ws_retN ?_
  | with_reducible refine ws_cont ?_
  | with_reducible refine ws_brk ?_
  | with_reducible refine ws_asg ?_
  | with_reducible refine ye_var (by with_unfolding_all rfl) ?_
  | with_reducible refine ye_c ?_
  | with_reducible refine ye_op ?_
  | with_reducible refine ye_cb ?_
  | with_reducible refine ye_bm ?_
  | with_reducible refine ye_m1 ?_
  | with_reducible refine ye_if ?_
  | with_reducible refine ye_andV ?_
  | with_reducible refine ye_orV ?_
  | with_reducible refine ye_notV ?_
  | with_reducible refine ye_join ?_
  | with_reducible refine ye_fmt ?_
  | with_reducible refine ye_fld ?_
  | with_reducible refine ye_items ?_
  | with_reducible refine ye_sl ?_
  | with_reducible refine ye_tup ?_
  | with_reducible refine yo_none ?_
  | with_reducible refine yo_some ?_
  | with_reducible refine yt_B ?_
  | with_reducible refine yt_test ?_
  | with_reducible refine yt_and ?_
  | with_reducible refine yt_or ?_
  | with_reducible refine yt_not ?_
  | with_reducible refine yt_yes ?_
  | with_reducible refine ya_nil ?_
  | with_reducible refine ya_cons ?_
  | with_reducible refine ya_starA ?_
  | with_reducible refine yj_nil ?_
  | with_reducible refine yj_cons ?_
  | with_reducible refine wg_name ?_
  | with_reducible refine eqA_S ?_
  | with_reducible refine neA_S ?_
  | with_reducible refine eqA_I ?_
  | with_reducible refine neA_I ?_
  | with_reducible refine addA_I ?_
  | with_reducible refine rd_I0 ?_
  | with_reducible refine isi_SS ?_
  | with_reducible refine rc_strS ?_
  | with_reducible refine rd_isN ?_
  | with_reducible refine rd_notN ?_
  | with_reducible refine chain_I ?_
  | with_reducible refine rc_lenS (by walk_at "len") ?_
  | with_reducible refine inA_S ?_
  | with_reducible refine ws_fld1 (by with_unfolding_all rfl) (by walk_at "cls") (by walk_at "nof") (by decide +kernel) (by decide +kernel) ?_
  | with_reducible refine ⟨_, _, _, _, OV.im _ _ _, by walk_at "cls", by walk_at "nof", by walk_at "dlf", ?_⟩
  | with_reducible refine ⟨_, _, _, _, OV.mu _ _ _ _ (List.mem_singleton.mpr rfl), by walk_at "cls", by walk_at "nof", by with_unfolding_all rfl, ?_⟩
  | with_reducible refine ⟨(rfl : ([_] : G) = _), ?_⟩
  | with_reducible refine ⟨_, _, _, rfl, rfl, rfl, ?_⟩
  | refine iteT ?_
  | refine iteF ?_
  | with_reducible refine ⟨_, rfl, ?_⟩
  | with_reducible refine ⟨(by walk_at "len" : List.length _ ≤ _), ?_⟩
  | with_reducible refine ⟨(by walk_at "len" : PySem.Str.length _ ≤ _), ?_⟩)
local macro_rules | `(tactic| walk_at "go") => `(tactic| repeat walk_at "go1")
local macro_rules | `(tactic| walk_at "end") => `(tactic| first | rfl | exact ⟨rfl, rfl⟩ | exact ⟨_, rfl, rfl⟩ | exact ⟨_, _, rfl, rfl⟩)
local macro_rules | `(tactic| walk_at "auto1") => `(tactic| first | walk_at "go1" | walk_at "own" | refine iteT' (by decide +kernel) ?_ | refine iteF' (by decide +kernel) ?_ | refine iteB (fun h => ?_) (fun h => ?_))
local macro_rules | `(tactic| walk_at "auto") => `(tactic| repeat' walk_at "auto1")
local macro_rules | `(tactic| walk_at "own") => `(tactic| first
  | with_reducible refine rd_bookF ?_
  | with_reducible refine rd_bookT ?_
  | with_reducible refine ⟨_, _, OV.im _ _ _, by decide +kernel, ?_⟩
  | with_reducible refine ixA_L (.t _) (by with_unfolding_all rfl) ?_
  | with_reducible refine ixA_L (.r _ _ _) (by with_unfolding_all rfl) ?_
  | with_reducible refine wg_tupN (by repeat constructor) ⟨_, rfl, rfl, rfl, ?_⟩
  | with_reducible refine ye_lackC ?_
  | with_reducible refine inA_b2F ?_
  | with_reducible refine inA_b2T ?_
  | with_reducible refine inA_SF ?_
  | with_reducible refine inA_ST ?_
  | with_reducible refine inA_hereF (by assumption) ?_
  | with_reducible refine inA_hereT (by assumption) ?_
  | with_reducible refine ye_disp ?_
  | with_reducible refine yp_cons ?_
  | with_reducible refine yp_nil ?_
  | with_reducible refine ya_star ?_
  | refine ye_lack (by with_unfolding_all rfl) (by show 1 ≠ 0; decide) ?_
  | refine ye_methQ ?_)
section
variable {P : Program} {w : World} {K : PySem.W.Frag} {mg : Str → Option Value} {base : Heap}
theorem chk_join (s w : Str) : chk s w = Txt.join " " [s, w] := by
  rw [TL.join_eq]; rfl
theorem split_chk {s w : Str} (hs : 32 ∉ s.cps.toList) (hw : 32 ∉ w.cps.toList) : Txt.split (chk s w) " " = [s, w] := by
  rw [chk_join]
  exact TL.split_join (y := " ") (s := 32) (S := []) (by decide +kernel) (by decide +kernel) (by simp) fun p hp => by
    simp only [List.mem_cons, List.not_mem_nil, or_false] at hp
    rcases hp with rfl | rfl
    · exact hs
    · exact hw
theorem name_nosp {w : Str} (h : isName w = true) : 32 ∉ w.cps.toList := fun z => by
  unfold isName at h
  simp only [Bool.and_eq_true, List.all_eq_true, decide_eq_true_eq] at h
  exact absurd (h.2 32 z) (by decide +kernel)
/-! ### the states that a watch may have -/
def chars (z : Str) : List Str := z.cps.toList.map s1
def lettersAll (z : Str) : List Str := "" :: (chars z ++ (z.cps.toList.flatMap fun a => z.cps.toList.map fun b => ⟨#[a, b]⟩))
theorem isL_all {z l : Str} (h : l ∈ lettersAll z) : isL l := by
  unfold lettersAll chars at h
  simp only [List.mem_cons, List.mem_append, List.mem_map, List.mem_flatMap] at h
  rcases h with rfl | ⟨a, _, rfl⟩ | ⟨a, _, b, _, rfl⟩
  · exact .inl rfl
  · exact .inr (.inl ⟨a, rfl⟩)
  · exact .inr (.inr ⟨a, b, rfl⟩)
def sortsAll : List Str := ["X", "SXY", "CXY"]
theorem join_all : ∀ z ∈ sortsAll, ∀ l ∈ lettersAll z, ∀ c ∈ chars z, l.length ≠ 2 → joinL l c ∈ lettersAll z := by decide +kernel
theorem lack_all : ∀ z ∈ sortsAll, ∀ l ∈ lettersAll z, ∀ c ∈ chars z, lackS l c ∈ lettersAll z := by decide +kernel
theorem letters_ok : ∀ z ∈ sortsAll, ∀ l ∈ lettersAll z, PyData.strOk l = true := by decide +kernel
theorem with_all {b : BookS} {z l c m : Str} (hz : z ∈ sortsAll) (hl : l ∈ lettersAll z) (hc : c ∈ chars z) (h : withL b l c = some m) : m ∈ lettersAll z := by
  unfold withL at h
  split at h
  · cases h
  · rename_i n
    cases h
    exact join_all z hz l hl c hc fun e => n (.inl e)
theorem sorts_all (b : BookS) (c : Col) : WatchS.sorts (.col b c) ∈ sortsAll := by
  unfold WatchS.sorts
  cases hf : c.fall <;> simp [hf, sortsAll]
theorem char_of {z : Str} {a : Nat} (h : a ∈ z.cps.toList) : s1 a ∈ chars z := List.mem_map.mpr ⟨a, h, rfl⟩
/-! of a kind -/
def xsK : List Str := ["new", "plain", "marked", "gone"]
def setK : List (Str × Str) := xsK.flatMap fun x => (lettersAll "X").map fun l => (x, l)
theorem mem_setK {s : Str × Str} : s ∈ setK ↔ s.1 ∈ xsK ∧ s.2 ∈ lettersAll "X" := by
  obtain ⟨x, l⟩ := s
  simp only [setK, List.mem_flatMap, List.mem_map, Prod.mk.injEq]
  constructor
  · rintro ⟨x', h1, l', h2, rfl, rfl⟩; exact ⟨h1, h2⟩
  · rintro ⟨h1, h2⟩; exact ⟨x, h1, l, h2, rfl, rfl⟩
theorem outK_in {b : BookS} {h : Str} {lab : Lab} {s : Str × Str} {p : (Str × Str) × Str} (hl : okLab "X" lab) (hs : s ∈ setK) (e : outK b h lab s = some p) : p.1 ∈ setK := by
  obtain ⟨x, l⟩ := s
  rw [mem_setK] at hs
  obtain ⟨hx, hll⟩ := hs
  have k1 : ("plain" : Str) ∈ xsK := by decide +kernel
  have k2 : ("marked" : Str) ∈ xsK := by decide +kernel
  have k3 : ("gone" : Str) ∈ xsK := by decide +kernel
  have kz : ("X" : Str) ∈ sortsAll := by decide +kernel
  have kx : ("X" : Str) ∈ chars "X" := by decide +kernel
  rw [mem_setK]
  cases lab with
  | put r o =>
    simp only [outK] at e
    split at e <;> cases e
    exact ⟨k1, hll⟩
  | turn o => cases e
  | strike => cases e
  | mark r =>
    simp only [outK] at e
    split at e <;> cases e
    exact ⟨k2, hll⟩
  | hand w c =>
    have hk := lack_all "X" kz l hll "X" kx
    simp only [outK] at e
    split at e
    · split at e
      · cases e
      · cases hm : withL b l "X" with
        | none => rw [hm] at e; cases e
        | some m =>
          rw [hm] at e
          cases e
          exact ⟨hx, with_all kz hll kx hm⟩
    · split at e
      · cases e
      · split at e <;> cases e
        · exact ⟨k3, hk⟩
        · exact ⟨hx, hk⟩
/-! of a column -/
def xsC : List Str := ["new", "plain", "marked", "other", "gone"]
def psC : List Str := ["-", "y", "z"]
def ysC : List Str := ["new", "plain", "marked", "gone"]
def zsC : List Str := ["new", "plain"]
def setC (z : Str) : List St5 := xsC.flatMap fun x => psC.flatMap fun p => ysC.flatMap fun y => zsC.flatMap fun q => (lettersAll z).map fun l => ⟨x, p, y, q, l⟩
theorem mem_setC {z : Str} {s : St5} : s ∈ setC z ↔ s.x ∈ xsC ∧ s.p ∈ psC ∧ s.y ∈ ysC ∧ s.z ∈ zsC ∧ s.l ∈ lettersAll z := by
  obtain ⟨x, p, y, q, l⟩ := s
  simp only [setC, List.mem_flatMap, List.mem_map, St5.mk.injEq]
  constructor
  · rintro ⟨_, h1, _, h2, _, h3, _, h4, _, h5, rfl, rfl, rfl, rfl, rfl⟩; exact ⟨h1, h2, h3, h4, h5⟩
  · rintro ⟨h1, h2, h3, h4, h5⟩; exact ⟨x, h1, p, h2, y, h3, q, h4, l, h5, rfl, rfl, rfl, rfl, rfl⟩
/-- the labels' rows and owners -/
def okLabC (z : Str) : Lab → Prop
  | .put _ o => o ∈ psC
  | .turn o => o ∈ psC
  | .hand w c => w ∈ listWords ∧ ∃ a, c = s1 a ∧ a ∈ z.cps.toList
  | _ => True
theorem okLabC_of {z : Str} {l : Lab} (h : l ∈ labsC z) : okLabC z l := by
  rcases List.mem_append.mp h with h | h
  · simp only [List.mem_cons, List.not_mem_nil, or_false] at h
    rcases h with rfl | rfl | rfl | rfl | rfl | rfl | rfl | rfl | rfl | rfl | rfl <;> simp [okLabC, psC]
  · obtain ⟨p, hp, rfl⟩ := List.mem_map.mp h
    exact mem_pairs hp
theorem kC : ("plain" : Str) ∈ xsC ∧ ("marked" : Str) ∈ xsC ∧ ("other" : Str) ∈ xsC ∧ ("gone" : Str) ∈ xsC ∧ ("plain" : Str) ∈ ysC ∧ ("marked" : Str) ∈ ysC ∧ ("gone" : Str) ∈ ysC ∧ ("plain" : Str) ∈ zsC ∧ ("-" : Str) ∈ psC := by decide +kernel
theorem doneS_in {b : BookS} {c : Col} {z ch : Str} {s : St5} (hs : s ∈ setC z) : (doneS b c ch s).1 ∈ setC z := by
  obtain ⟨k1, k2, k3, k4, k5, k6, k7, k8, k9⟩ := kC
  rw [mem_setC] at hs ⊢
  obtain ⟨h1, h2, h3, h4, h5⟩ := hs
  unfold doneS
  split
  · exact ⟨h1, h2, h3, h4, h5⟩
  split
  · refine ⟨?_, h2, h3, h4, h5⟩
    show (if s.x = "plain" then ("marked" : Str) else s.x) ∈ xsC
    split
    · exact k2
    · exact h1
  split
  · refine ⟨h1, h2, ?_, h4, h5⟩
    show (if in2 s.y "plain" "marked" = true then ("gone" : Str) else s.y) ∈ ysC
    split
    · exact k7
    · exact h3
  split
  · exact ⟨h1, h2, h3, h4, h5⟩
  split
  · exact ⟨h1, k9, h3, h4, h5⟩
  · exact ⟨k4, k9, h3, h4, h5⟩
theorem outC_in {b : BookS} {c : Col} {lab : Lab} {s : St5} {p : St5 × Str} {z : Str} (hz : z ∈ sortsAll) (hl : okLabC z lab) (hs : s ∈ setC z) (e : outC b c lab s = some p) : p.1 ∈ setC z := by
  obtain ⟨k1, k2, k3, k4, k5, k6, k7, k8, k9⟩ := kC
  have hs0 := hs
  rw [mem_setC] at hs
  obtain ⟨h1, h2, h3, h4, h5⟩ := hs
  cases lab with
  | put r o =>
    obtain ⟨q, e1, rfl⟩ := Option.map_eq_some_iff.mp (show (putBehind b c r o s).map (·, ("" : Str)) = some p from e)
    unfold putBehind at e1
    split at e1
    · split at e1 <;> cases e1
      exact mem_setC.mpr ⟨k1, hl, h3, h4, h5⟩
    · split at e1
      · split at e1 <;> cases e1
        exact mem_setC.mpr ⟨h1, h2, k5, h4, h5⟩
      · split at e1 <;> cases e1
        exact mem_setC.mpr ⟨h1, h2, h3, k8, h5⟩
  | turn o =>
    obtain ⟨q, e1, rfl⟩ := Option.map_eq_some_iff.mp (show (turnedS b c o s).map (·, ("" : Str)) = some p from e)
    unfold turnedS at e1
    split at e1
    · cases e1
    split at e1
    · cases e1
    split at e1 <;> cases e1
    exact mem_setC.mpr ⟨h1, hl, h3, h4, h5⟩
  | mark r =>
    obtain ⟨q, e1, rfl⟩ := Option.map_eq_some_iff.mp (show (markedS b c false r s).map (·, ("" : Str)) = some p from e)
    unfold markedS at e1
    simp only [Bool.false_eq_true, if_false] at e1
    split at e1
    · split at e1 <;> cases e1
      exact mem_setC.mpr ⟨h1, h2, k6, h4, h5⟩
    · split at e1 <;> cases e1
      exact mem_setC.mpr ⟨k3, h2, h3, h4, h5⟩
  | strike =>
    obtain ⟨q, e1, rfl⟩ := Option.map_eq_some_iff.mp (show (markedS b c true "x" s).map (·, ("" : Str)) = some p from e)
    unfold markedS at e1
    simp only [if_true] at e1
    split at e1
    · split at e1 <;> cases e1
      exact mem_setC.mpr ⟨h1, h2, k6, h4, h5⟩
    · split at e1 <;> cases e1
      exact mem_setC.mpr ⟨k3, h2, h3, h4, h5⟩
  | hand w ch =>
    obtain ⟨_, a, rfl, ha⟩ := hl
    have hch := char_of ha
    have hk := lack_all z hz s.l h5 _ hch
    simp only [outC] at e
    split at e
    · obtain ⟨q, e1, rfl⟩ := Option.map_eq_some_iff.mp e
      unfold lookedS at e1
      split at e1
      · cases e1
      · rename_i m hm
        split at e1 <;> cases e1
        exact mem_setC.mpr ⟨h1, h2, h3, h4, with_all hz h5 hch hm⟩
    · split at e
      · cases e
      · split at e <;> cases e
        · exact mem_setC.mpr ⟨h1, h2, h3, h4, hk⟩
        · exact doneS_in (mem_setC.mpr ⟨h1, h2, h3, h4, hk⟩)
theorem setK_len : setK.length < 100000 := by decide +kernel
theorem setC_len : ∀ z ∈ sortsAll, (setC z).length < 100000 := by decide +kernel
theorem beginK_in : (("new", "") : Str × Str) ∈ setK := by decide +kernel
theorem beginC_in : ∀ z ∈ sortsAll, (⟨"new", "-", "new", "new", ""⟩ : St5) ∈ setC z := by decide +kernel
theorem setK_ok : ∀ s ∈ setK, PyData.strOk s.1 = true ∧ PyData.strOk s.2 = true := by decide +kernel
theorem words_ok : (∀ s ∈ xsC, PyData.strOk s = true) ∧ (∀ s ∈ psC, PyData.strOk s = true) ∧ (∀ s ∈ ysC, PyData.strOk s = true) ∧ (∀ s ∈ zsC, PyData.strOk s = true) := by decide +kernel
theorem setK_isL {s : Str × Str} (h : s ∈ setK) : isL s.2 := isL_all (mem_setK.mp h).2
theorem setC_isL {z : Str} {s : St5} (h : s ∈ setC z) : isL s.l := isL_all (mem_setC.mp h).2.2.2.2
end
end Ls
set_option Elab.async false
set_option linter.all false
set_option maxRecDepth 100000
set_option maxHeartbeats 4000000
set_option autoImplicit false
namespace Ls
open PySem PySem.Spec PyProof.Rows L2 Dl
local macro_rules | `(tactic| walk_at "nof") => `(tactic| first
  | with_reducible exact Txt.n_Column_word (by assumption)
  | with_reducible exact Txt.n_Column_home (by assumption)
  | with_reducible exact Txt.n_Column_goal (by assumption)
  | with_reducible exact Txt.n_Column_rule (by assumption)
  | with_reducible exact Txt.n_Book_open_kinds (by assumption)
  | with_reducible exact Txt.n_Book_column_rows (by assumption)
  | with_reducible exact Txt.n_Book_column_table (by assumption)
  | with_reducible exact Txt.n_Book_all_checks (by assumption)
  | with_reducible exact Txt.n_Book_own_checks (by assumption)
  | with_reducible exact Txt.n_Watch_law_book (by assumption)
  | with_reducible exact Txt.n_Watch_home (by assumption)
  | with_reducible exact Txt.n_Watch_can_mark (by assumption)
  | with_reducible exact Txt.n_Watch_sorts (by assumption)
  | with_reducible exact Txt.n_KindWatch_law_book (by assumption)
  | with_reducible exact Txt.n_KindWatch_home (by assumption)
  | with_reducible exact Txt.n_KindWatch_can_mark (by assumption)
  | with_reducible exact Txt.n_KindWatch_sorts (by assumption)
  | with_reducible exact Txt.n_ColumnWatch_law_book (by assumption)
  | with_reducible exact Txt.n_ColumnWatch_home (by assumption)
  | with_reducible exact Txt.n_ColumnWatch_can_mark (by assumption)
  | with_reducible exact Txt.n_ColumnWatch_sorts (by assumption)
  | with_reducible exact Txt.n_ColumnWatch_by (by assumption)
  | with_reducible exact Txt.n_ColumnWatch_goal (by assumption)
  | with_reducible exact Txt.n_ColumnWatch_other_column (by assumption)
  | with_reducible exact Txt.n_Weaver_watch (by assumption)
  | with_reducible exact Txt.n_Weaver_way (by assumption)
  | with_reducible exact Txt.n_Weaver_made (by assumption)
  | with_reducible exact Txt.n_Weaver_held (by assumption)
  | with_reducible exact Txt.n_Weaver_chains (by assumption)
  | with_reducible exact Txt.n_Weaver_unused (by assumption))
local macro_rules | `(tactic| walk_at "cls") => `(tactic| first
  | with_reducible exact Txt.cl_Column (by assumption)
  | with_reducible exact Txt.cl_Book (by assumption)
  | with_reducible exact Txt.cl_Watch (by assumption)
  | with_reducible exact Txt.cl_KindWatch (by assumption)
  | with_reducible exact Txt.cl_ColumnWatch (by assumption)
  | with_reducible exact Txt.cl_Weaver (by assumption))
local macro_rules | `(tactic| walk_at "dlf") => `(tactic| first
  | with_reducible exact dlf_Column_word ..
  | with_reducible exact dlf_Column_home ..
  | with_reducible exact dlf_Column_goal ..
  | with_reducible exact dlf_Column_rule ..
  | with_reducible exact dlf_Book_open_kinds ..
  | with_reducible exact dlf_Book_column_rows ..
  | with_reducible exact dlf_Book_column_table ..
  | with_reducible exact dlf_Book_all_checks ..
  | with_reducible exact dlf_Book_own_checks ..
  | with_reducible exact dlf_Watch_law_book ..
  | with_reducible exact dlf_Watch_home ..
  | with_reducible exact dlf_Watch_can_mark ..
  | with_reducible exact dlf_Watch_sorts ..
  | with_reducible exact dlf_KindWatch_law_book ..
  | with_reducible exact dlf_KindWatch_home ..
  | with_reducible exact dlf_KindWatch_can_mark ..
  | with_reducible exact dlf_KindWatch_sorts ..
  | with_reducible exact dlf_ColumnWatch_law_book ..
  | with_reducible exact dlf_ColumnWatch_home ..
  | with_reducible exact dlf_ColumnWatch_can_mark ..
  | with_reducible exact dlf_ColumnWatch_sorts ..
  | with_reducible exact dlf_ColumnWatch_by ..
  | with_reducible exact dlf_ColumnWatch_goal ..
  | with_reducible exact dlf_ColumnWatch_other_column ..
  | with_reducible exact dlf_Weaver_watch ..
  | with_reducible exact dlf_Weaver_way ..
  | with_reducible exact dlf_Weaver_made ..
  | with_reducible exact dlf_Weaver_held ..
  | with_reducible exact dlf_Weaver_chains ..
  | with_reducible exact dlf_Weaver_unused ..)
local macro_rules | `(tactic| walk_at "len") => `(tactic| first | decide | (simp; done) | omega | (simp; omega) | (simp only [PySem.Str.length_append, sizeLine_eq, len_empty, len_space]; omega))
local macro_rules | `(tactic| walk_at "go1") => `(tactic| first
  | with_reducible refine ws_seq ?_
  | with_reducible refine ws_set ?_
  | with_reducible refine ws_ret ?_
  | with_reducible refine ws_if ?_
  | with_reducible refine ws_drop ?_
  | with_reducible refine ws_next ?_
  | with_reducible refine ws_retN ?_
  | with_reducible refine ws_cont ?_
  | with_reducible refine ws_brk ?_
  | with_reducible refine ws_asg ?_
  | with_reducible refine ye_var (by with_unfolding_all rfl) ?_
  | with_reducible refine ye_c ?_
  | with_reducible refine ye_op ?_
  | with_reducible refine ye_cb ?_
  | with_reducible refine ye_bm ?_
  | with_reducible refine ye_m1 ?_
  | with_reducible refine ye_if ?_
  | with_reducible refine ye_andV ?_
  | with_reducible refine ye_orV ?_
  | with_reducible refine ye_notV ?_
  | with_reducible refine ye_join ?_
  | with_reducible refine ye_fmt ?_
  | with_reducible refine ye_fld ?_
  | with_reducible refine ye_items ?_
  | with_reducible refine ye_sl ?_
  | with_reducible refine ye_tup ?_
  | with_reducible refine yo_none ?_
  | with_reducible refine yo_some ?_
  | with_reducible refine yt_B ?_
  | with_reducible refine yt_test ?_
  | with_reducible refine yt_and ?_
  | with_reducible refine yt_or ?_
  | with_reducible refine yt_not ?_
  | with_reducible refine yt_yes ?_
  | with_reducible refine ya_nil ?_
  | with_reducible refine ya_cons ?_
  | with_reducible refine ya_starA ?_
  | with_reducible refine yj_nil ?_
  | with_reducible refine yj_cons ?_
  | with_reducible refine wg_name ?_
  | with_reducible refine eqA_S ?_
  | with_reducible refine neA_S ?_
  | with_reducible refine eqA_I ?_
  | with_reducible refine neA_I ?_
  | with_reducible refine addA_I ?_
  | with_reducible refine rd_I0 ?_
  | with_reducible refine isi_SS ?_
  | with_reducible refine rc_strS ?_
  | with_reducible refine rd_isN ?_
  | with_reducible refine rd_notN ?_
  | with_reducible refine chain_I ?_
  | with_reducible refine rc_lenS (by walk_at "len") ?_
  | with_reducible refine inA_S ?_
  | with_reducible refine ws_fld1 (by with_unfolding_all rfl) (by walk_at "cls") (by walk_at "nof") (by decide +kernel) (by decide +kernel) ?_
  | with_reducible refine ⟨_, _, _, _, OV.im _ _ _, by walk_at "cls", by walk_at "nof", by walk_at "dlf", ?_⟩
  | with_reducible refine ⟨_, _, _, _, OV.mu _ _ _ _ (List.mem_singleton.mpr rfl), by walk_at "cls", by walk_at "nof", by with_unfolding_all rfl, ?_⟩
  | with_reducible refine ⟨(rfl : ([_] : G) = _), ?_⟩
  | with_reducible refine ⟨_, _, _, rfl, rfl, rfl, ?_⟩
  | refine iteT ?_
  | refine iteF ?_
  | with_reducible refine ⟨_, rfl, ?_⟩
  | with_reducible refine ⟨(by walk_at "len" : List.length _ ≤ _), ?_⟩
  | with_reducible refine ⟨(by walk_at "len" : PySem.Str.length _ ≤ _), ?_⟩)
local macro_rules | `(tactic| walk_at "go") => `(tactic| repeat walk_at "go1")
local macro_rules | `(tactic| walk_at "end") => `(tactic| first | rfl | exact ⟨rfl, rfl⟩ | exact ⟨_, rfl, rfl⟩ | exact ⟨_, _, rfl, rfl⟩)
local macro_rules | `(tactic| walk_at "auto1") => `(tactic| first | walk_at "go1" | walk_at "own" | refine iteT' (by decide +kernel) ?_ | refine iteF' (by decide +kernel) ?_ | refine iteB (fun h => ?_) (fun h => ?_))
local macro_rules | `(tactic| walk_at "auto") => `(tactic| repeat' walk_at "auto1")
local macro_rules | `(tactic| walk_at "own") => `(tactic| first
  | with_reducible refine rd_bookF ?_
  | with_reducible refine rd_bookT ?_
  | with_reducible refine ⟨_, _, OV.im _ _ _, by decide +kernel, ?_⟩
  | with_reducible refine ixA_L (.t _) (by with_unfolding_all rfl) ?_
  | with_reducible refine ixA_L (.r _ _ _) (by with_unfolding_all rfl) ?_
  | with_reducible refine wg_tupN (by repeat constructor) ⟨_, rfl, rfl, rfl, ?_⟩
  | with_reducible refine ye_lackC ?_
  | with_reducible refine inA_b2F ?_
  | with_reducible refine inA_b2T ?_
  | with_reducible refine inA_SF ?_
  | with_reducible refine inA_ST ?_
  | with_reducible refine inA_hereF (by assumption) ?_
  | with_reducible refine inA_hereT (by assumption) ?_
  | with_reducible refine ye_disp ?_
  | with_reducible refine yp_cons ?_
  | with_reducible refine yp_nil ?_
  | with_reducible refine ya_star ?_
  | refine ye_lack (by with_unfolding_all rfl) (by show 1 ≠ 0; decide) ?_
  | refine ye_methQ ?_)
section
variable {P : Program} {w : World} {K : PySem.W.Frag} {mg : Str → Option Value} {base : Heap}
/-! ### two watches walked at once -/
def Lab.isMark : Lab → Bool
  | .mark _ => true
  | .hand w _ => decide (w = "mark")
  | _ => false
section
variable {S : Type} [DecidableEq S]
def apart (lab : Lab) (p q : Option (S × Str)) : Bool := match p, q with
  | some p, some q => !decide (p.1 = q.1)
  | none, none => false
  | _, _ => !lab.isMark
def StepOk (o1 o2 : Lab → S → Option (S × Str)) (F : List S) (s : S) (lab : Lab) : Prop := apart lab (o1 lab s) (o2 lab s) = false ∧ ∀ p q, o1 lab s = some p → o2 lab s = some q → p.1 ∈ F
/-- no deed ends differently -/
def NoApart (begin : S) (labs : List Lab) (o1 o2 : Lab → S → Option (S × Str)) : Prop := ∃ F : List S, begin ∈ F ∧ ∀ s ∈ F, ∀ lab ∈ labs, StepOk o1 o2 F s lab
inductive Way (begin : S) (labs : List Lab) (o1 o2 : Lab → S → Option (S × Str)) : List Lab → S → Prop
  | nil : Way begin labs o1 o2 [] begin
  | snoc (w : List Lab) (s : S) (lab : Lab) (p q : S × Str) (h : Way begin labs o1 o2 w s) (hl : lab ∈ labs) (h1 : o1 lab s = some p) (h2 : o2 lab s = some q) : Way begin labs o1 o2 (w ++ [lab]) p.1
def WayApart (begin : S) (labs : List Lab) (o1 o2 : Lab → S → Option (S × Str)) (w : List Lab) : Prop := ∃ w0 s lab, w = w0 ++ [lab] ∧ Way begin labs o1 o2 w0 s ∧ lab ∈ labs ∧ apart lab (o1 lab s) (o2 lab s) = true
theorem StepOk.mono {o1 o2 : Lab → S → Option (S × Str)} {F F' : List S} {s : S} {lab : Lab} (h : StepOk o1 o2 F s lab) (k : ∀ x ∈ F, x ∈ F') : StepOk o1 o2 F' s lab := ⟨h.1, fun p q e1 e2 => k _ (h.2 p q e1 e2)⟩
/-- equal watches are never parted -/
theorem apart_self {lab : Lab} {p : Option (S × Str)} : apart lab p p = false := by
  cases p with
  | none => rfl
  | some p => simp [apart]
theorem not_wayApart {begin : S} {labs : List Lab} {o : Lab → S → Option (S × Str)} {w : List Lab} : ¬ WayApart begin labs o o w := by
  rintro ⟨w0, s, lab, _, _, _, h⟩
  rw [apart_self] at h; cases h
theorem NoApart.not_way {begin : S} {labs : List Lab} {o1 o2 : Lab → S → Option (S × Str)} (h : NoApart begin labs o1 o2) {w : List Lab} : ¬ WayApart begin labs o1 o2 w := by
  obtain ⟨F, hb, hF⟩ := h
  have inF : ∀ {w s}, Way begin labs o1 o2 w s → s ∈ F := by
    intro w s hw
    induction hw with
    | nil => exact hb
    | snoc w s lab p q _ hl h1 h2 ih => exact (hF s ih lab hl).2 p q h1 h2
  rintro ⟨w0, s, lab, _, hw, hl, e⟩
  rw [(hF s (inF hw) lab hl).1] at e; cases e
/-- what the search knows: kw the states with ways to them, left those that wait -/
structure Srch (begin : S) (labs : List Lab) (o1 o2 : Lab → S → Option (S × Str)) (U : List S) (kw : List (S × List Lab)) (left : List S) : Prop where
  nd : (kw.map (·.1)).Nodup
  sub : ∀ p ∈ kw, p.1 ∈ U
  way : ∀ p ∈ kw, Way begin labs o1 o2 p.2 p.1
  beg : begin ∈ kw.map (·.1)
  lf : ∀ s ∈ left, s ∈ kw.map (·.1)
  ln : ∀ p ∈ kw, p.2.length < kw.length
  ll : left.length ≤ kw.length
theorem Srch.len {begin : S} {labs : List Lab} {o1 o2 : Lab → S → Option (S × Str)} {U : List S} {kw : List (S × List Lab)} {left : List S} (h : Srch begin labs o1 o2 U kw left) : kw.length ≤ U.length := by
  have := List.Nodup.length_le_of_subset h.nd (l₂ := U) fun s hs => by
    obtain ⟨p, hp, rfl⟩ := List.mem_map.mp hs
    exact h.sub p hp
  simpa using this
/-- within the turn of the state s, i labels done -/
structure Inn (begin : S) (labs : List Lab) (o1 o2 : Lab → S → Option (S × Str)) (U : List S) (kw : List (S × List Lab)) (left : List S) (s : S) (w : List Lab) (i k0 t0 : Nat) : Prop extends Srch begin labs o1 o2 U kw left where
  mem : (s, w) ∈ kw
  cl : ∀ t ∈ kw.map (·.1), t ∉ left → t ≠ s → ∀ lab ∈ labs, StepOk o1 o2 (kw.map (·.1)) t lab
  cs : ∀ lab ∈ labs.take i, StepOk o1 o2 (kw.map (·.1)) s lab
  ms : left.length + k0 = t0 + kw.length
structure Outr (begin : S) (labs : List Lab) (o1 o2 : Lab → S → Option (S × Str)) (U : List S) (kw : List (S × List Lab)) (left : List S) : Prop extends Srch begin labs o1 o2 U kw left where
  cl : ∀ t ∈ kw.map (·.1), t ∉ left → ∀ lab ∈ labs, StepOk o1 o2 (kw.map (·.1)) t lab
section
variable {begin : S} {labs : List Lab} {o1 o2 : Lab → S → Option (S × Str)} {U : List S} {kw : List (S × List Lab)} {left : List S} {s : S} {w : List Lab} {i k0 t0 : Nat} {lab : Lab}
theorem Outr.start (hb : begin ∈ U) : Outr begin labs o1 o2 U [(begin, [])] [begin] :=
  ⟨⟨by simp, fun p hp => by simp at hp; subst hp; exact hb, fun p hp => by simp at hp; subst hp; exact .nil, by simp, by simp, fun p hp => by simp at hp; subst hp; simp, by simp⟩, fun t ht hn => by simp at ht hn; exact absurd ht hn⟩
theorem Outr.fin (h : Outr begin labs o1 o2 U kw []) : NoApart begin labs o1 o2 := ⟨kw.map (·.1), h.beg, fun s hs lab hl => h.cl s hs (by simp) lab hl⟩
theorem Outr.into {tl : List S} (h : Outr begin labs o1 o2 U kw (s :: tl)) : ∃ w, Inn begin labs o1 o2 U kw tl s w 0 kw.length tl.length := by
  obtain ⟨p, hp, e⟩ := List.mem_map.mp (h.lf s (by simp))
  subst e
  exact ⟨p.2, ⟨h.nd, h.sub, h.way, h.beg, fun t ht => h.lf t (by simp [ht]), h.ln, by have := h.ll; rw [List.length_cons] at this; omega⟩, hp, fun t ht hn hne => h.cl t ht (by simp [hn, hne]), by simp, by omega⟩
theorem Inn.out (h : Inn begin labs o1 o2 U kw left s w i k0 t0) (hi : labs.length ≤ i) : Outr begin labs o1 o2 U kw left := by
  refine ⟨h.toSrch, fun t ht hn => ?_⟩
  by_cases e : t = s
  · subst e
    have := h.cs
    rw [List.take_of_length_le hi] at this
    exact this
  · exact h.cl t ht hn e
theorem Inn.skip (h : Inn begin labs o1 o2 U kw left s w i k0 t0) (hi : labs[i]? = some lab) (ha : apart lab (o1 lab s) (o2 lab s) = false) (hk : ∀ p q, o1 lab s = some p → o2 lab s = some q → p.1 ∈ kw.map (·.1)) : Inn begin labs o1 o2 U kw left s w (i + 1) k0 t0 := by
  refine ⟨h.toSrch, h.mem, h.cl, fun l hl => ?_, h.ms⟩
  rw [take_succ' hi, List.mem_append] at hl
  rcases hl with hl | hl
  · exact h.cs l hl
  · simp only [List.mem_cons, List.not_mem_nil, or_false] at hl
    subst hl
    exact ⟨ha, hk⟩
theorem Inn.add {p q : S × Str} (h : Inn begin labs o1 o2 U kw left s w i k0 t0) (hi : labs[i]? = some lab) (ha : apart lab (o1 lab s) (o2 lab s) = false) (e1 : o1 lab s = some p) (e2 : o2 lab s = some q) (hn : p.1 ∉ kw.map (·.1)) (hu : p.1 ∈ U) :
    Inn begin labs o1 o2 U (kw ++ [(p.1, w ++ [lab])]) (left ++ [p.1]) s w (i + 1) k0 t0 := by
  have up : ∀ x ∈ kw.map (·.1), x ∈ (kw ++ [(p.1, w ++ [lab])]).map (·.1) := fun x hx => by rw [List.map_append]; exact List.mem_append_left _ hx
  have hl : lab ∈ labs := List.mem_of_getElem? hi
  refine ⟨⟨?_, ?_, ?_, up _ h.beg, ?_, ?_, by have := h.ll; simp only [List.length_append, List.length_cons, List.length_nil]; omega⟩, List.mem_append_left _ h.mem, fun t ht hn2 hne lab2 hl2 => ?_, fun l hl2 => ?_, ?_⟩
  · rw [List.map_append]
    refine List.nodup_append.mpr ⟨h.nd, by simp, fun a ha2 x hx e => ?_⟩
    simp at hx
    subst hx
    exact hn (e ▸ ha2)
  · intro r hr
    rcases List.mem_append.mp hr with hr | hr
    · exact h.sub r hr
    · simp at hr; subst hr; exact hu
  · intro r hr
    rcases List.mem_append.mp hr with hr | hr
    · exact h.way r hr
    · simp at hr; subst hr
      exact .snoc w s lab p q (h.way _ h.mem) hl e1 e2
  · intro t ht
    rcases List.mem_append.mp ht with ht | ht
    · exact up _ (h.lf t ht)
    · simp at ht; subst ht; simp
  · intro r hr
    rw [List.length_append, List.length_cons, List.length_nil]
    rcases List.mem_append.mp hr with hr | hr
    · have := h.ln r hr; omega
    · simp at hr; subst hr
      have := h.ln _ h.mem
      simp only [List.length_append, List.length_cons, List.length_nil]
      simp only at this
      omega
  · rw [List.map_append, List.mem_append] at ht
    rw [List.mem_append, not_or] at hn2
    rcases ht with ht | ht
    · exact (h.cl t ht hn2.1 hne lab2 hl2).mono up
    · simp at ht; subst ht; simp at hn2
  · rw [take_succ' hi, List.mem_append] at hl2
    rcases hl2 with hl2 | hl2
    · exact (h.cs l hl2).mono up
    · simp only [List.mem_cons, List.not_mem_nil, or_false] at hl2
      subst hl2
      exact ⟨ha, fun p' q' e3 e4 => by rw [e1] at e3; cases e3; simp⟩
  · have := h.ms
    simp only [List.length_append, List.length_cons, List.length_nil]
    omega
end
end
/-! ### are_apart -/
abbrev dSs (ss : List Str) : D := .tup (ss.map dS)
def dOL : Option (List Str × Str) → D
  | none => dN
  | some (s, w) => .tup [dSs s, dS w]
def toC (s : St5) : List Str := [s.x, s.p, s.y, s.z, s.l]
def toK (s : Str × Str) : List Str := [s.1, s.2]
theorem toC_inj (s t : St5) (h : toC s = toC t) : s = t := by
  obtain ⟨a, b, c, d, e⟩ := s
  obtain ⟨a', b', c', d', e'⟩ := t
  simp only [toC, List.cons.injEq, and_true] at h
  obtain ⟨h1, h2, h3, h4, h5⟩ := h
  subst h1 h2 h3 h4 h5
  rfl
theorem toK_inj (s t : Str × Str) (h : toK s = toK t) : s = t := by
  obtain ⟨a, b⟩ := s
  obtain ⟨a', b'⟩ := t
  simp only [toK, List.cons.injEq, and_true] at h
  obtain ⟨h1, h2⟩ := h
  subst h1 h2
  rfl
def keyC (s : St5) : List Key := (toC s).map Sum.inr
def keyK (s : Str × Str) : List Key := (toK s).map Sum.inr
theorem inr_map_inj : ∀ {a b : List Str}, (a.map Sum.inr : List Key) = b.map Sum.inr → a = b
  | [], [], _ => rfl
  | [], _ :: _, h => by simp at h
  | _ :: _, [], h => by simp at h
  | x :: xs, y :: ys, h => by
    simp only [List.map_cons, List.cons.injEq, Sum.inr.injEq] at h
    rw [h.1, inr_map_inj h.2]
theorem keyC_inj (s t : St5) (h : keyC s = keyC t) : s = t := toC_inj s t (inr_map_inj h)
theorem keyK_inj (s t : Str × Str) (h : keyK s = keyK t) : s = t := toK_inj s t (inr_map_inj h)
def mapO {S : Type} (f : S → List Str) (o : Option (S × Str)) : Option (List Str × Str) := o.map fun p => (f p.1, p.2)
theorem dOutC_L (o : Option (St5 × Str)) : dOutC o = dOL (mapO toC o) := by cases o <;> rfl
theorem dOutK_L (o : Option ((Str × Str) × Str)) : dOutK o = dOL (mapO toK o) := by
  cases o with
  | none => rfl
  | some p => obtain ⟨⟨a, b⟩, c⟩ := p; rfl
theorem apart_map {S : Type} [DecidableEq S] {f : S → List Str} (hf : ∀ a b, f a = f b → a = b) {lab : Lab} {p q : Option (S × Str)} : apart lab (mapO f p) (mapO f q) = apart lab p q := by
  cases p with
  | none => cases q <;> rfl
  | some p =>
    cases q with
    | none => rfl
    | some q =>
      show (!decide (f p.1 = f q.1)) = !decide (p.1 = q.1)
      by_cases h : p.1 = q.1
      · simp [h]
      · have : ¬ f p.1 = f q.1 := fun z => h (hf _ _ z)
        simp [h, this]
theorem strs_py {ss : List Str} (h : ∀ s ∈ ss, PyData.strOk s = true) : isPy 60 (dSs ss) = true := by
  show isPys 59 (ss.map dS) = true
  exact isPys_map fun s hs => by simp only [isPy, h s hs]
theorem eqv_dSs {a b : List Str} : PyData.eqv (pyOf (dSs a)) (pyOf (dSs b)) = decide (a = b) := by
  show PyData.eqv (.tuple (pyOfs (a.map dS))) (.tuple (pyOfs (b.map dS))) = _
  rw [PyData.eqv]
  exact eqv_strs
def R_are_apart : RS := pureR (α := Nat × Lab × Option (List Str × Str) × Option (List Str × Str)) (fun x ds => ds = [dLab x.1 x.2.1, dOL x.2.2.1, dOL x.2.2.2] ∧ (∀ p, x.2.2.1 = some p → ∀ s ∈ p.1, PyData.strOk s = true) ∧ ∀ p, x.2.2.2 = some p → ∀ s ∈ p.1, PyData.strOk s = true) (fun x => dB (apart x.2.1 x.2.2.1 x.2.2.2))
abbrev N_are_apart : List Str := ["label", "one", "other"]
theorem sc_are_apart : FnScope N_are_apart ["label", "one", "other"] (defScope (top 37)) := ⟨rfl, rfl, rfl, by decide +kernel, rfl, by decide +kernel, by decide +kernel⟩
theorem ok_are_apart {f : Addr} {fd : FuncData} (T : Txt K mg)  (F : FunD K "are_apart" "are_apart" (defArgs (top 37)) (defBody (top 37)) (defScope (top 37)) [] [] f fd) : FnOk P w K mg base CX0 1 f fd ["label", "one", "other"] (spR R_are_apart) := by
  refine okW F sc_are_apart (by rintro ds g Q ⟨_, x, ⟨rfl, _⟩, _⟩; rfl) fun cdv A outer s H E hr => ⟨_, PSs.nox (pss_cons (ps_if (PW.pt (pw_or (pt_cmpR op_isNn (pv 1) pe_non (nomark _)) (pw_or1 (pt_cmpR op_isNn (pv 2) pe_non (nomark _))))) (pss_one (ps_ret (pe_and (pe_cmpR (k_ne (K := K) rfl hr.units) (pe_ix (k_ix (K := K) rfl (hu_of hr)) (pv 0) pe_int (fun _ _ => rfl)) pe_str (nomark _)) (pe_one (pe_cmpR (k_ne (K := K) rfl hr.units) (pe_cmpR op_isNn (pv 1) pe_non (nomark _)) (pe_cmpR op_isNn (pv 2) pe_non (nomark _)) (nomark _)))))) pss_nil)
      (pss_one (ps_ret (pe_cmpR (k_ne (K := K) rfl hr.units) (pe_ix (k_ix (K := K) rfl (hu_of hr)) (pv 1) pe_int (fun _ _ => rfl)) (pe_ix (k_ix (K := K) rfl (hu_of hr)) (pv 2) pe_int (fun _ _ => rfl)) (nomark _))))), ?_⟩
  rintro ds g Q ⟨rfl, ⟨n, lab, o1, o2⟩, ⟨rfl, hs1, hs2⟩, hQ⟩
  replace hs1 : ∀ p, o1 = some p → ∀ s ∈ p.1, PyData.strOk s = true := hs1
  replace hs2 : ∀ p, o2 = some p → ∀ s ∈ p.1, PyData.strOk s = true := hs2
  replace hQ : Q (dB (apart lab o1 o2)) [] := hQ
  cases o1 with
  | none =>
    cases o2 with
    | none => cases lab <;> (dsimp only [dOL, dLab]; walk_at "auto" <;> (try (refine neA_B ?_; walk_at "auto")) <;> exact hQ)
    | some q =>
      obtain ⟨q, w⟩ := q
      cases lab <;> (dsimp only [dOL, dLab]; walk_at "auto" <;> (try (refine neA_B ?_; walk_at "auto")) <;> (simp_all [apart, Lab.isMark]; try exact hQ))
  | some p =>
    obtain ⟨p, w⟩ := p
    cases o2 with
    | none => cases lab <;> (dsimp only [dOL, dLab]; walk_at "auto" <;> (try (refine neA_B ?_; walk_at "auto")) <;> (simp_all [apart, Lab.isMark]; try exact hQ))
    | some q =>
      obtain ⟨q, w2⟩ := q
      dsimp only [dOL]
      walk_at "auto"
      refine neA_P (strs_py (hs1 _ rfl)) (strs_py (hs2 _ rfl)) ?_
      rw [eqv_dSs]
      exact hQ
end
end Ls
set_option Elab.async false
set_option linter.all false
set_option maxRecDepth 100000
set_option maxHeartbeats 4000000
set_option autoImplicit false
namespace Ls
open PySem PySem.Spec PyProof.Rows L2 Dl
local macro_rules | `(tactic| walk_at "nof") => `(tactic| first
  | with_reducible exact Txt.n_Column_word (by assumption)
  | with_reducible exact Txt.n_Column_home (by assumption)
  | with_reducible exact Txt.n_Column_goal (by assumption)
  | with_reducible exact Txt.n_Column_rule (by assumption)
  | with_reducible exact Txt.n_Book_open_kinds (by assumption)
  | with_reducible exact Txt.n_Book_column_rows (by assumption)
  | with_reducible exact Txt.n_Book_column_table (by assumption)
  | with_reducible exact Txt.n_Book_all_checks (by assumption)
  | with_reducible exact Txt.n_Book_own_checks (by assumption)
  | with_reducible exact Txt.n_Watch_law_book (by assumption)
  | with_reducible exact Txt.n_Watch_home (by assumption)
  | with_reducible exact Txt.n_Watch_can_mark (by assumption)
  | with_reducible exact Txt.n_Watch_sorts (by assumption)
  | with_reducible exact Txt.n_KindWatch_law_book (by assumption)
  | with_reducible exact Txt.n_KindWatch_home (by assumption)
  | with_reducible exact Txt.n_KindWatch_can_mark (by assumption)
  | with_reducible exact Txt.n_KindWatch_sorts (by assumption)
  | with_reducible exact Txt.n_ColumnWatch_law_book (by assumption)
  | with_reducible exact Txt.n_ColumnWatch_home (by assumption)
  | with_reducible exact Txt.n_ColumnWatch_can_mark (by assumption)
  | with_reducible exact Txt.n_ColumnWatch_sorts (by assumption)
  | with_reducible exact Txt.n_ColumnWatch_by (by assumption)
  | with_reducible exact Txt.n_ColumnWatch_goal (by assumption)
  | with_reducible exact Txt.n_ColumnWatch_other_column (by assumption)
  | with_reducible exact Txt.n_Weaver_watch (by assumption)
  | with_reducible exact Txt.n_Weaver_way (by assumption)
  | with_reducible exact Txt.n_Weaver_made (by assumption)
  | with_reducible exact Txt.n_Weaver_held (by assumption)
  | with_reducible exact Txt.n_Weaver_chains (by assumption)
  | with_reducible exact Txt.n_Weaver_unused (by assumption))
local macro_rules | `(tactic| walk_at "cls") => `(tactic| first
  | with_reducible exact Txt.cl_Column (by assumption)
  | with_reducible exact Txt.cl_Book (by assumption)
  | with_reducible exact Txt.cl_Watch (by assumption)
  | with_reducible exact Txt.cl_KindWatch (by assumption)
  | with_reducible exact Txt.cl_ColumnWatch (by assumption)
  | with_reducible exact Txt.cl_Weaver (by assumption))
local macro_rules | `(tactic| walk_at "dlf") => `(tactic| first
  | with_reducible exact dlf_Column_word ..
  | with_reducible exact dlf_Column_home ..
  | with_reducible exact dlf_Column_goal ..
  | with_reducible exact dlf_Column_rule ..
  | with_reducible exact dlf_Book_open_kinds ..
  | with_reducible exact dlf_Book_column_rows ..
  | with_reducible exact dlf_Book_column_table ..
  | with_reducible exact dlf_Book_all_checks ..
  | with_reducible exact dlf_Book_own_checks ..
  | with_reducible exact dlf_Watch_law_book ..
  | with_reducible exact dlf_Watch_home ..
  | with_reducible exact dlf_Watch_can_mark ..
  | with_reducible exact dlf_Watch_sorts ..
  | with_reducible exact dlf_KindWatch_law_book ..
  | with_reducible exact dlf_KindWatch_home ..
  | with_reducible exact dlf_KindWatch_can_mark ..
  | with_reducible exact dlf_KindWatch_sorts ..
  | with_reducible exact dlf_ColumnWatch_law_book ..
  | with_reducible exact dlf_ColumnWatch_home ..
  | with_reducible exact dlf_ColumnWatch_can_mark ..
  | with_reducible exact dlf_ColumnWatch_sorts ..
  | with_reducible exact dlf_ColumnWatch_by ..
  | with_reducible exact dlf_ColumnWatch_goal ..
  | with_reducible exact dlf_ColumnWatch_other_column ..
  | with_reducible exact dlf_Weaver_watch ..
  | with_reducible exact dlf_Weaver_way ..
  | with_reducible exact dlf_Weaver_made ..
  | with_reducible exact dlf_Weaver_held ..
  | with_reducible exact dlf_Weaver_chains ..
  | with_reducible exact dlf_Weaver_unused ..)
local macro_rules | `(tactic| walk_at "len") => `(tactic| first | decide | (simp; done) | omega | (simp; omega) | (simp only [PySem.Str.length_append, sizeLine_eq, len_empty, len_space]; omega))
local macro_rules | `(tactic| walk_at "go1") => `(tactic| first
  | with_reducible refine ws_seq ?_
  | with_reducible refine ws_set ?_
  | with_reducible refine ws_ret ?_
  | with_reducible refine ws_if ?_
  | with_reducible refine ws_drop ?_
  | with_reducible refine ws_next ?_
  | with_reducible refine ws_retN ?_
  | with_reducible refine ws_cont ?_
  | with_reducible refine ws_brk ?_
  | with_reducible refine ws_asg ?_
  | with_reducible refine ye_var (by with_unfolding_all rfl) ?_
  | with_reducible refine ye_c ?_
  | with_reducible refine ye_op ?_
  | with_reducible refine ye_cb ?_
  | with_reducible refine ye_bm ?_
  | with_reducible refine ye_m1 ?_
  | with_reducible refine ye_if ?_
  | with_reducible refine ye_andV ?_
  | with_reducible refine ye_orV ?_
  | with_reducible refine ye_notV ?_
  | with_reducible refine ye_join ?_
  | with_reducible refine ye_fmt ?_
  | with_reducible refine ye_fld ?_
  | with_reducible refine ye_items ?_
  | with_reducible refine ye_sl ?_
  | with_reducible refine ye_tup ?_
  | with_reducible refine yo_none ?_
  | with_reducible refine yo_some ?_
  | with_reducible refine yt_B ?_
  | with_reducible refine yt_test ?_
  | with_reducible refine yt_and ?_
  | with_reducible refine yt_or ?_
  | with_reducible refine yt_not ?_
  | with_reducible refine yt_yes ?_
  | with_reducible refine ya_nil ?_
  | with_reducible refine ya_cons ?_
  | with_reducible refine ya_starA ?_
  | with_reducible refine yj_nil ?_
  | with_reducible refine yj_cons ?_
  | with_reducible refine wg_name ?_
  | with_reducible refine eqA_S ?_
  | with_reducible refine neA_S ?_
  | with_reducible refine eqA_I ?_
  | with_reducible refine neA_I ?_
  | with_reducible refine addA_I ?_
  | with_reducible refine rd_I0 ?_
  | with_reducible refine isi_SS ?_
  | with_reducible refine rc_strS ?_
  | with_reducible refine rd_isN ?_
  | with_reducible refine rd_notN ?_
  | with_reducible refine chain_I ?_
  | with_reducible refine rc_lenS (by walk_at "len") ?_
  | with_reducible refine inA_S ?_
  | with_reducible refine ws_fld1 (by with_unfolding_all rfl) (by walk_at "cls") (by walk_at "nof") (by decide +kernel) (by decide +kernel) ?_
  | with_reducible refine ⟨_, _, _, _, OV.im _ _ _, by walk_at "cls", by walk_at "nof", by walk_at "dlf", ?_⟩
  | with_reducible refine ⟨_, _, _, _, OV.mu _ _ _ _ (List.mem_singleton.mpr rfl), by walk_at "cls", by walk_at "nof", by with_unfolding_all rfl, ?_⟩
  | with_reducible refine ⟨(rfl : ([_] : G) = _), ?_⟩
  | with_reducible refine ⟨_, _, _, rfl, rfl, rfl, ?_⟩
  | refine iteT ?_
  | refine iteF ?_
  | with_reducible refine ⟨_, rfl, ?_⟩
  | with_reducible refine ⟨(by walk_at "len" : List.length _ ≤ _), ?_⟩
  | with_reducible refine ⟨(by walk_at "len" : PySem.Str.length _ ≤ _), ?_⟩)
local macro_rules | `(tactic| walk_at "go") => `(tactic| repeat walk_at "go1")
local macro_rules | `(tactic| walk_at "end") => `(tactic| first | rfl | exact ⟨rfl, rfl⟩ | exact ⟨_, rfl, rfl⟩ | exact ⟨_, _, rfl, rfl⟩)
local macro_rules | `(tactic| walk_at "auto1") => `(tactic| first | walk_at "go1" | walk_at "own" | refine iteT' (by decide +kernel) ?_ | refine iteF' (by decide +kernel) ?_ | refine iteB (fun h => ?_) (fun h => ?_))
local macro_rules | `(tactic| walk_at "auto") => `(tactic| repeat' walk_at "auto1")
local macro_rules | `(tactic| walk_at "own") => `(tactic| first
  | with_reducible refine rd_bookF ?_
  | with_reducible refine rd_bookT ?_
  | with_reducible refine ⟨_, _, OV.im _ _ _, by decide +kernel, ?_⟩
  | with_reducible refine ixA_L (.t _) (by with_unfolding_all rfl) ?_
  | with_reducible refine ixA_L (.r _ _ _) (by with_unfolding_all rfl) ?_
  | with_reducible refine wg_tupN (by repeat constructor) ⟨_, rfl, rfl, rfl, ?_⟩
  | with_reducible refine ye_lackC ?_
  | with_reducible refine inA_b2F ?_
  | with_reducible refine inA_b2T ?_
  | with_reducible refine inA_SF ?_
  | with_reducible refine inA_ST ?_
  | with_reducible refine inA_hereF (by assumption) ?_
  | with_reducible refine inA_hereT (by assumption) ?_
  | with_reducible refine ye_disp ?_
  | with_reducible refine yp_cons ?_
  | with_reducible refine yp_nil ?_
  | with_reducible refine ya_star ?_
  | refine ye_lack (by with_unfolding_all rfl) (by show 1 ≠ 0; decide) ?_
  | refine ye_methQ ?_)
section
variable {P : Program} {w : World} {K : PySem.W.Frag} {mg : Str → Option Value} {base : Heap}
theorem raw_in {z : Str} (n : Nat) (h : z.cps.toList ≠ []) : ∃ w c, D.raw n w c ∈ rawsD n z := by
  cases e : z.cps.toList with
  | nil => exact absurd e h
  | cons a l =>
    refine ⟨"look", s1 a, List.mem_map.mpr ⟨("look", s1 a), ?_, rfl⟩⟩
    unfold pairsL
    rw [e]
    simp [listWords]
theorem mem_l {α : Type} {x y : α} : x ∈ [x, y] := List.mem_cons_self
theorem mem_r {α : Type} {x y : α} : y ∈ [x, y] := List.mem_cons_of_mem _ (List.mem_singleton.mpr rfl)
theorem sorts_ne : ∀ z ∈ sortsAll, z.cps.toList ≠ [] := by decide +kernel
theorem setC_ok {z : Str} (hz : z ∈ sortsAll) {s : St5} (h : s ∈ setC z) : ∀ x ∈ toC s, PyData.strOk x = true := by
  obtain ⟨h1, h2, h3, h4, h5⟩ := mem_setC.mp h
  obtain ⟨w1, w2, w3, w4⟩ := words_ok
  intro x hx
  simp only [toC, List.mem_cons, List.not_mem_nil, or_false] at hx
  rcases hx with rfl | rfl | rfl | rfl | rfl
  · exact w1 _ h1
  · exact w2 _ h2
  · exact w3 _ h3
  · exact w4 _ h4
  · exact letters_ok z hz _ h5
theorem setK_ok2 {s : Str × Str} (h : s ∈ setK) : ∀ x ∈ toK s, PyData.strOk x = true := by
  intro x hx
  simp only [toK, List.mem_cons, List.not_mem_nil, or_false] at hx
  rcases hx with rfl | rfl
  · exact (setK_ok s h).1
  · exact (setK_ok s h).2
theorem dlk_kw {S : Type} [DecidableEq S] {key : S → List Key} (hk : ∀ a b, key a = key b → a = b) {V : List Lab → D} : ∀ {kw : List (S × List Lab)} {s : S} {w : List Lab}, (kw.map (·.1)).Nodup → (s, w) ∈ kw → dlk (kw.map fun p => key p.1) (kw.map fun p => V p.2) (key s) = some (V w)
  | [], s, w, _, h => by cases h
  | (t, v) :: kw, s, w, nd, h => by
    rw [List.map_cons, List.map_cons]
    unfold dlk
    rcases List.mem_cons.mp h with h | h
    · cases h
      rw [if_pos rfl]
    · have hne : ¬ key t = key s := fun e => by
        have e2 := hk _ _ e
        subst e2
        rw [List.map_cons] at nd
        exact (List.nodup_cons.mp nd).1 (List.mem_map.mpr ⟨(t, w), h, rfl⟩)
      rw [if_neg hne]
      rw [List.map_cons] at nd
      exact dlk_kw hk (List.nodup_cons.mp nd).2 h
theorem keys_nd {S : Type} [DecidableEq S] {key : S → List Key} (hk : ∀ a b, key a = key b → a = b) {kw : List (S × List Lab)} (nd : (kw.map (·.1)).Nodup) : (kw.map fun p => key p.1).Nodup := by
  have := nodup_inj (f := key) hk nd
  rwa [List.map_map] at this
abbrev begC : St5 := ⟨"new", "-", "new", "new", ""⟩
abbrev begK : Str × Str := ("new", "")
noncomputable def NoApC (x : BookS × Col × BookS × Col) : Prop := NoApart begC (labsC (WatchS.sorts (.col x.1 x.2.1))) (outC x.1 x.2.1) (outC x.2.2.1 x.2.2.2)
noncomputable def WayApC (x : BookS × Col × BookS × Col) (w : List Lab) : Prop := WayApart begC (labsC (WatchS.sorts (.col x.1 x.2.1))) (outC x.1 x.2.1) (outC x.2.2.1 x.2.2.2) w
noncomputable def NoApK (x : BookS × Str × BookS × Str) : Prop := NoApart begK labsK (outK x.1 x.2.1) (outK x.2.2.1 x.2.2.2)
noncomputable def WayApK (x : BookS × Str × BookS × Str) (w : List Lab) : Prop := WayApart begK labsK (outK x.1 x.2.1) (outK x.2.2.1 x.2.2.2) w
noncomputable def R_way_apart_C (K : PySem.W.Frag) : RS := ndR (α := BookS × Col × BookS × Col) (fun x ds g => ds = [dCW K x.1 x.2.1, dCW K x.2.2.1 x.2.2.2] ∧ g = [] ∧ WfC x.1 x.2.1 ∧ WfC x.2.2.1 x.2.2.2 ∧ x.2.1.fall = x.2.2.2.fall) (fun x d g' => (d = dN ∧ NoApC x) ∨ ∃ n w, d = .lst (w.map (dLab n)) ∧ WayApC x w)
abbrev N_way_apart_C : List Str := ["first", "second", "left", "ways", "labels", "state", "label", "one", "other"]
theorem sc_way_apart_C : FnScope N_way_apart_C ["first", "second"] (defScope (top 38)) := ⟨rfl, rfl, rfl, by decide +kernel, rfl, by decide +kernel, by decide +kernel⟩
theorem ok_way_apart_C {f : Addr} {fd : FuncData} (T : Txt K mg) (c_ColumnWatch_begin : Met P w K mg base CX0 1 (He.ga K "ColumnWatch") "begin" ["self"] (spR (R_ColumnWatch_begin K))) (c_ColumnWatch_labels : MetR P w K mg base 2 (He.ga K "ColumnWatch") "labels" ["self"] (spRn (pre_CL K) res_CL)) (c_ColumnWatch_outcome : ∀ n, 1 ≤ n → MetN n P w K mg base CX0 6 (He.ga K "ColumnWatch") "outcome" ["self", "label", "state"] (spR (R_ColumnWatch_outcome K n))) (c_are_apart : Cal P w K mg base CX0 1 "are_apart" ["label", "one", "other"] (spR R_are_apart)) (F : FunD K "way_apart" "way_apart" (defArgs (top 38)) (defBody (top 38)) (defScope (top 38)) [] [] f fd) : FnOk P w K mg base CX0 7 f fd ["first", "second"] (spR (R_way_apart_C K)) := by
  refine okW F sc_way_apart_C (by rintro ds g Q ⟨x, ⟨rfl, _⟩, _⟩; rfl) fun cdv A outer s H E hr => ⟨_, PSs.nox (pss_parR (i := 3) (j := 4) rfl sc_way_apart_C.nd rfl rfl (by decide) rfl rfl (par_cons (pe_dispT1 (hu_of hr) (pe_met0 c_ColumnWatch_begin (hr.mono (by decide)) pass0 (pv 0)) (pe_lst pa_nil)) (par_one (per_met0 c_ColumnWatch_labels (hr.mono (by decide)) (pv 0)))) (fun m => psn_guard fun h1m => (psn_cons (PSn.of (ps_set (i := 2) sc_way_apart_C.nd rfl (by first | exact Or.inl rfl | exact Or.inr rfl) (pe_lst (pa_cons (pe_met0 c_ColumnWatch_begin (hr.mono (by decide)) pass0 (pv 0)) pa_nil))))
      (psn_cons (psn_while PassesOwn.never (pt_cmpR op_gt (pe_callB (k_len (K := K) rfl) (by rfl) T.f_len (by decide +kernel) (pa_cons (pv 2) pa_nil)) pe_int (nomark _)) (psn_cons (PSn.of (ps_set (i := 5) sc_way_apart_C.nd rfl (by first | exact Or.inl rfl | exact Or.inr rfl) (k_bm (K := K) rfl PySem.F.plainAttrs_list PySem.F.slot_list_pop PySem.F.type_list_pop mt_popAt (pv 2) (pa_cons pe_int pa_nil))))
      (psn_one (psn_for PassesOwn.never rfl (k_any (K := K) rfl (pv 4)) (pg_name (i := 6) sc_way_apart_C.nd rfl (by first | exact Or.inl rfl | exact Or.inr rfl)) (psn_cons (psn_par (i := 7) (j := 8) rfl sc_way_apart_C.nd rfl rfl (by decide) rfl rfl (pan_cons (pen_met (c_ColumnWatch_outcome _ h1m) (hr.mono (by decide)) pass0 (pv 0) (pa_cons (pv 6) (pa_cons (pv 5) pa_nil))) (pan_cons (pen_met (c_ColumnWatch_outcome _ h1m) (hr.mono (by decide)) pass0 (pv 1) (pa_cons (pv 6) (pa_cons (pv 5) pa_nil))) (PAn.of pa_nil))) (by rfl))
      (PSsn.of (pss_cons (ps_if (pt_val (pe_cal c_are_apart (hr.mono (by decide)) rfl pass0 (pa_cons (pv 6) (pa_cons (pv 7) (pa_cons (pv 8) pa_nil))))) (pss_one (ps_ret (pe_lst (k_starA (K := K) rfl rfl (pe_ix (k_ix (K := K) rfl (hu_of hr)) (pv 3) (pv 5) (fun _ _ => rfl)) (pa_cons (pv 6) pa_nil))))) pss_nil)
      (pss_one (ps_if (PW.pt (pw_and (pt_cmpR op_notNn (pv 7) pe_non (nomark _)) (pw_and (pt_cmpR op_notNn (pv 8) pe_non (nomark _)) (pw_and1 (pt_cmpR (k_nin (K := K) rfl (hu_of hr)) (pe_ix (k_ix (K := K) rfl (hu_of hr)) (pv 7) pe_int (fun _ _ => rfl)) (pv 3) (by rfl)))))) (pss_cons (ps_dput (hu_of hr) (pv 3) (pe_ix (k_ix (K := K) rfl (hu_of hr)) (pv 7) pe_int (fun _ _ => rfl)) (pe_lst (k_starA (K := K) rfl rfl (pe_ix (k_ix (K := K) rfl (hu_of hr)) (pv 3) (pv 5) (fun _ _ => rfl)) (pa_cons (pv 6) pa_nil))) rfl)
      (pss_one (ps_expr (k_bm (K := K) rfl PySem.F.plainAttrs_list PySem.F.slot_list_append PySem.F.type_list_append mt_append (pv 2) (pa_cons (pe_ix (k_ix (K := K) rfl (hu_of hr)) (pv 7) pe_int (fun _ _ => rfl)) pa_nil))))) pss_nil)))))))))
      (PSsn.of (pss_one (ps_ret pe_non)))))) (by rfl)), ?_⟩
  rintro ds g Q ⟨⟨b, c, b2, c2⟩, ⟨rfl, rfl, wf, wf2, hzz⟩, hQ⟩
  replace wf : WfC b c := wf
  replace wf2 : WfC b2 c2 := wf2
  replace hzz : c.fall = c2.fall := hzz
  have hz : WatchS.sorts (.col b c) ∈ sortsAll := sorts_all b c
  have hz2 : WatchS.sorts (.col b2 c2) = WatchS.sorts (.col b c) := by simp only [WatchS.sorts, hzz]
  generalize hO1 : outC b c = O1
  generalize hO2 : outC b2 c2 = O2
  have hno : NoApart begC (labsC (WatchS.sorts (.col b c))) O1 O2 → ∀ g', Q dN g' := fun h g' => hQ dN g' (.inl ⟨rfl, by subst hO1 hO2; exact h⟩)
  have hway : ∀ n w, WayApart begC (labsC (WatchS.sorts (.col b c))) O1 O2 w → ∀ g', Q (.lst (w.map (dLab n))) g' := fun n w h g' => hQ _ g' (.inr ⟨n, w, rfl, by subst hO1 hO2; exact h⟩)
  clear hQ
  refine ws_parR (yr_cons (ye_dispT1 ?_))
  walk_at "auto"
  refine ⟨(b, c), rfl, ?_⟩
  refine ye_lst ?_
  walk_at "auto"
  refine ⟨keyC begC, rfl, fun a ha => ?_⟩
  refine yr_one (yr_met0 ?_)
  walk_at "auto"
  refine ⟨_, _, (b, c), .im _ _ _, by decide +kernel, rfl, fun m => ?_⟩
  refine ⟨_, _, rfl, ?_⟩
  have hlabs : res_CL (b, c) m = .lst ((labsC (WatchS.sorts (.col b c))).map (dLab m)) := by show D.lst (labC _ m) = _; rw [labC_eq]
  rw [hlabs]
  obtain ⟨rw1, rc1, hraw⟩ := raw_in (z := WatchS.sorts (.col b c)) m (sorts_ne _ hz)
  refine ws_guard (i := 4) (w := rw1) (c := rc1) rfl ((fun h => by rw [← labC_eq]; unfold labC; simp only [List.mem_append]; exact .inr (.inr h)) hraw) fun h1m => ?_
  refine ws_seq (ws_set (ye_lstM ?_))
  walk_at "auto"
  refine ⟨(b, c), rfl, ?_⟩
  walk_at "auto"
  intro a2 ha2
  have ne : a ≠ a2 := fun z => ha2 (by simp [z])
  refine ws_seq (ws_while (fun k e gg => ∃ (kw : List (St5 × List Lab)) (left : List St5) (x5 x6 x7 x8 : Option D), e = [some (dCW K b c), some (dCW K b2 c2), some (.v (.ref a2)), some (.v (.ref a)), some (.lst ((labsC (WatchS.sorts (.col b c))).map (dLab m))), x5, x6, x7, x8] ∧
    gg = [(a, .dit (kw.map fun p => keyC p.1) (kw.map fun p => .lst (p.2.map (dLab m)))), (a2, .lst (left.map dSt))] ∧ Outr begC (labsC (WatchS.sorts (.col b c))) O1 O2 (setC (WatchS.sorts (.col b c))) kw left ∧ k = 2 * (((setC (WatchS.sorts (.col b c)))).length - kw.length) + left.length) _ ⟨[(begC, [])], [begC], none, none, none, none, rfl, rfl, Outr.start (beginC_in _ hz), rfl⟩ ?_)
  rintro k e gg ⟨kw, left, x5, x6, x7, x8, rfl, rfl, ho, rfl⟩
  have hlen := ho.len
  have hU := setC_len _ hz
  walk_at "auto"
  refine rc_len (.l _ _ (.mu a2 _ mem_r)) ?_
  walk_at "auto"
  · rename_i hpos
    cases left with
    | nil => cases hpos
    | cons s tl =>
    clear hpos
    refine ⟨ty_list (.mu a2 _ mem_r), ?_⟩
    walk_at "auto"
    refine rm_popAt (d := dSt s) (xs := (s :: tl).map dSt) (j := 0) mem_r (by simp [seqIndex?]) (by decide) (by decide) rfl ?_
    rw [setG_two_r ne]
    show WS _ _ [(a, _), (a2, MO.lst (tl.map dSt))] _
    obtain ⟨w, hin0⟩ := ho.into
    have hsU : s ∈ (setC (WatchS.sorts (.col b c))) := hin0.sub _ hin0.mem
    refine ws_for (yi_any ?_)
    walk_at "auto"
    refine ⟨_, _, .lst _, fun i e gg => ∃ (kw2 : List (St5 × List Lab)) (left2 : List St5) (x6 x7 x8 : Option D), e = [some (dCW K b c), some (dCW K b2 c2), some (.v (.ref a2)), some (.v (.ref a)), some (.lst ((labsC (WatchS.sorts (.col b c))).map (dLab m))), some (dSt s), x6, x7, x8] ∧
      gg = [(a, .dit (kw2.map fun p => keyC p.1) (kw2.map fun p => .lst (p.2.map (dLab m)))), (a2, .lst (left2.map dSt))] ∧ Inn begC (labsC (WatchS.sorts (.col b c))) O1 O2 (setC (WatchS.sorts (.col b c))) kw2 left2 s w i kw.length tl.length ∧ kw.length ≤ kw2.length, ⟨kw, tl, x6, x7, x8, rfl, rfl, hin0, Nat.le_refl _⟩, fun _ _ _ _ c hc => by simp at hc, ?_, ?_⟩
    · rintro i d e gg hd ⟨kw2, left2, x6, x7, x8, rfl, rfl, hin, hle⟩
      obtain ⟨lab, hlab, rfl⟩ := map_get hd
      have hlm : lab ∈ (labsC (WatchS.sorts (.col b c))) := List.mem_of_getElem? hlab
      have hlen2 := hin.len
      have hwl := hin.ln _ hin.mem
      walk_at "auto"
      refine ws_par ?_
      walk_at "auto"
      refine ⟨(b, c, lab, s), ⟨rfl, wf, okLab_C hlm, setC_isL hsU⟩, ?_⟩
      walk_at "auto"
      refine ⟨(b2, c2, lab, s), ⟨rfl, wf2, by rw [hz2]; exact okLab_C hlm, setC_isL hsU⟩, ?_⟩
      walk_at "auto"
      refine ⟨_, _, rfl, ?_⟩
      dsimp only
      rw [hO1, hO2]
      have in1 : ∀ p, O1 lab s = some p → p.1 ∈ (setC (WatchS.sorts (.col b c))) := fun p e => outC_in hz (okLabC_of hlm) hsU (by rw [hO1]; exact e)
      have in2 : ∀ p, O2 lab s = some p → p.1 ∈ (setC (WatchS.sorts (.col b c))) := fun p e => outC_in hz (okLabC_of hlm) hsU (by rw [hO2]; exact e)
      walk_at "auto"
      refine ye_callQ ?_
      walk_at "auto"
      refine ⟨(m, lab, mapO toC (O1 lab s), mapO toC (O2 lab s)), ⟨by rw [dOutC_L, dOutC_L], fun p hp => ?_, fun p hp => ?_⟩, ?_⟩
      · obtain ⟨q, e, rfl⟩ := Option.map_eq_some_iff.mp (show (O1 lab s).map _ = some p from hp)
        exact setC_ok hz (in1 q e)
      · obtain ⟨q, e, rfl⟩ := Option.map_eq_some_iff.mp (show (O2 lab s).map _ = some p from hp)
        exact setC_ok hz (in2 q e)
      dsimp only
      rw [apart_map toC_inj]
      cases hap : apart lab (O1 lab s) (O2 lab s) with
      | true =>
        walk_at "auto"
        refine ye_lst ?_
        walk_at "auto"
        refine ixA_DT (kk := keyC s) mem_l (dlk_kw (V := fun w => .lst (w.map (dLab m))) keyC_inj hin.nd hin.mem) ?_
        refine ⟨_, .sq _ _ (.l _ _ (.im _)), ?_⟩
        walk_at "auto"
        refine ⟨by rw [List.length_append, List.length_map]; simp only [List.length_cons, List.length_nil]; simp only at hwl; omega, ?_⟩
        have := hway m (w ++ [lab]) ⟨w, s, lab, rfl, hin.way _ hin.mem, hlm, hap⟩ [(a, .dit (kw2.map fun p => keyC p.1) (kw2.map fun p => .lst (p.2.map (dLab m)))), (a2, .lst (left2.map dSt))]
        rw [List.map_append] at this
        exact this
      | false =>
        cases h1 : O1 lab s with
        | none =>
          dsimp only [dOutC]
          walk_at "auto"
          all_goals exact ⟨kw2, left2, _, _, _, rfl, rfl, hin.skip hlab hap (fun p q e1 _ => by rw [h1] at e1; cases e1), hle⟩
        | some p =>
          cases h2 : O2 lab s with
          | none =>
            dsimp only [dOutC]
            walk_at "auto"
            all_goals exact ⟨kw2, left2, _, _, _, rfl, rfl, hin.skip hlab hap (fun p q _ e2 => by rw [h2] at e2; cases e2), hle⟩
          | some q =>
            dsimp only [dOutC]
            walk_at "auto"
            refine inA_DT (neg := true) (kk := keyC p.1) mem_l ?_
            by_cases hm : p.1 ∈ kw2.map (·.1)
            · obtain ⟨r, hr, er⟩ := List.mem_map.mp hm
              rw [show kin (keyC p.1) (kw2.map fun p => keyC p.1) = true from kin_iff.mpr (List.mem_map.mpr ⟨r, hr, by rw [er]⟩)]
              walk_at "auto"
              exact ⟨kw2, left2, _, _, _, rfl, rfl, hin.skip hlab hap (fun p' q' e1 _ => by rw [h1] at e1; cases e1; exact hm), hle⟩
            · rw [show kin (keyC p.1) (kw2.map fun p => keyC p.1) = false from kin_not fun z => by
                obtain ⟨r, hr, e⟩ := List.mem_map.mp z
                exact hm (List.mem_map.mpr ⟨r, hr, keyC_inj _ _ e⟩)]
              walk_at "auto"
              refine ws_dputT (ye_lst ?_)
              walk_at "auto"
              refine ixA_DT (kk := keyC s) mem_l (dlk_kw (V := fun w => .lst (w.map (dLab m))) keyC_inj hin.nd hin.mem) ?_
              refine ⟨_, .sq _ _ (.l _ _ (.im _)), ?_⟩
              walk_at "auto"
              refine ⟨by rw [List.length_append, List.length_map]; simp only [List.length_cons, List.length_nil]; simp only at hwl; omega, ?_⟩
              walk_at "auto"
              refine ⟨a, _, _, keyC p.1, rfl, rfl, mem_l, keys_nd keyC_inj hin.nd, by rw [List.length_map]; omega, ?_⟩
              rw [dput_fresh (by simp) (fun z => by
                obtain ⟨r, hr, e⟩ := List.mem_map.mp z
                exact hm (List.mem_map.mpr ⟨r, hr, keyC_inj _ _ e⟩)), setG_two_l ne]
              walk_at "auto"
              refine ⟨ty_list (.mu a2 _ mem_r), ?_⟩
              walk_at "auto"
              have hms := hin.ll
              refine rm_append mem_r (by rw [List.length_map]; omega) ?_
              rw [setG_two_r ne]
              exact ⟨kw2 ++ [(p.1, w ++ [lab])], left2 ++ [p.1], _, _, _, rfl, by simp [List.map_append], hin.add hlab hap h1 h2 hm (in1 p h1), by rw [List.length_append]; omega⟩
    · rintro e gg ⟨kw2, left2, x6, x7, x8, rfl, rfl, hin, hle⟩
      have hlen2 := hin.len
      have hms := hin.ms
      refine ⟨_, ?_, kw2, left2, _, _, _, _, rfl, rfl, hin.out (by rw [List.length_map]; exact Nat.le_refl _), rfl⟩
      rw [List.length_cons]
      omega
  · rename_i hpos
    cases left with
    | nil =>
      exact hno ho.fin _
    | cons s tl =>
      simp at hpos
noncomputable def R_way_apart_K (K : PySem.W.Frag) : RS := ndR (α := BookS × Str × BookS × Str) (fun x ds g => ds = [dKW K x.1 x.2.1, dKW K x.2.2.1 x.2.2.2] ∧ g = [] ∧ WfB x.1.kk x.1.cc ∧ WfB x.2.2.1.kk x.2.2.1.cc ∧ x.2.1.length ≤ 100 ∧ x.2.2.2.length ≤ 100) (fun x d g' => (d = dN ∧ NoApK x) ∨ ∃ n w, d = .lst (w.map (dLab n)) ∧ WayApK x w)
abbrev N_way_apart_K : List Str := ["first", "second", "left", "ways", "labels", "state", "label", "one", "other"]
theorem sc_way_apart_K : FnScope N_way_apart_K ["first", "second"] (defScope (top 38)) := ⟨rfl, rfl, rfl, by decide +kernel, rfl, by decide +kernel, by decide +kernel⟩
theorem ok_way_apart_K {f : Addr} {fd : FuncData} (T : Txt K mg) (c_KindWatch_begin : Met P w K mg base CX0 1 (He.ga K "KindWatch") "begin" ["self"] (spR (R_KindWatch_begin K))) (c_KindWatch_labels : MetR P w K mg base 2 (He.ga K "KindWatch") "labels" ["self"] (spRn (pre_KL K) res_KL)) (c_KindWatch_outcome : ∀ n, 1 ≤ n → MetN n P w K mg base CX0 4 (He.ga K "KindWatch") "outcome" ["self", "label", "state"] (spR (R_KindWatch_outcome K n))) (c_are_apart : Cal P w K mg base CX0 1 "are_apart" ["label", "one", "other"] (spR R_are_apart)) (F : FunD K "way_apart" "way_apart" (defArgs (top 38)) (defBody (top 38)) (defScope (top 38)) [] [] f fd) : FnOk P w K mg base CX0 5 f fd ["first", "second"] (spR (R_way_apart_K K)) := by
  refine okW F sc_way_apart_K (by rintro ds g Q ⟨x, ⟨rfl, _⟩, _⟩; rfl) fun cdv A outer s H E hr => ⟨_, PSs.nox (pss_parR (i := 3) (j := 4) rfl sc_way_apart_K.nd rfl rfl (by decide) rfl rfl (par_cons (pe_dispT1 (hu_of hr) (pe_met0 c_KindWatch_begin (hr.mono (by decide)) pass0 (pv 0)) (pe_lst pa_nil)) (par_one (per_met0 c_KindWatch_labels (hr.mono (by decide)) (pv 0)))) (fun m => psn_guard fun h1m => (psn_cons (PSn.of (ps_set (i := 2) sc_way_apart_K.nd rfl (by first | exact Or.inl rfl | exact Or.inr rfl) (pe_lst (pa_cons (pe_met0 c_KindWatch_begin (hr.mono (by decide)) pass0 (pv 0)) pa_nil))))
      (psn_cons (psn_while PassesOwn.never (pt_cmpR op_gt (pe_callB (k_len (K := K) rfl) (by rfl) T.f_len (by decide +kernel) (pa_cons (pv 2) pa_nil)) pe_int (nomark _)) (psn_cons (PSn.of (ps_set (i := 5) sc_way_apart_K.nd rfl (by first | exact Or.inl rfl | exact Or.inr rfl) (k_bm (K := K) rfl PySem.F.plainAttrs_list PySem.F.slot_list_pop PySem.F.type_list_pop mt_popAt (pv 2) (pa_cons pe_int pa_nil))))
      (psn_one (psn_for PassesOwn.never rfl (k_any (K := K) rfl (pv 4)) (pg_name (i := 6) sc_way_apart_K.nd rfl (by first | exact Or.inl rfl | exact Or.inr rfl)) (psn_cons (psn_par (i := 7) (j := 8) rfl sc_way_apart_K.nd rfl rfl (by decide) rfl rfl (pan_cons (pen_met (c_KindWatch_outcome _ h1m) (hr.mono (by decide)) pass0 (pv 0) (pa_cons (pv 6) (pa_cons (pv 5) pa_nil))) (pan_cons (pen_met (c_KindWatch_outcome _ h1m) (hr.mono (by decide)) pass0 (pv 1) (pa_cons (pv 6) (pa_cons (pv 5) pa_nil))) (PAn.of pa_nil))) (by rfl))
      (PSsn.of (pss_cons (ps_if (pt_val (pe_cal c_are_apart (hr.mono (by decide)) rfl pass0 (pa_cons (pv 6) (pa_cons (pv 7) (pa_cons (pv 8) pa_nil))))) (pss_one (ps_ret (pe_lst (k_starA (K := K) rfl rfl (pe_ix (k_ix (K := K) rfl (hu_of hr)) (pv 3) (pv 5) (fun _ _ => rfl)) (pa_cons (pv 6) pa_nil))))) pss_nil)
      (pss_one (ps_if (PW.pt (pw_and (pt_cmpR op_notNn (pv 7) pe_non (nomark _)) (pw_and (pt_cmpR op_notNn (pv 8) pe_non (nomark _)) (pw_and1 (pt_cmpR (k_nin (K := K) rfl (hu_of hr)) (pe_ix (k_ix (K := K) rfl (hu_of hr)) (pv 7) pe_int (fun _ _ => rfl)) (pv 3) (by rfl)))))) (pss_cons (ps_dput (hu_of hr) (pv 3) (pe_ix (k_ix (K := K) rfl (hu_of hr)) (pv 7) pe_int (fun _ _ => rfl)) (pe_lst (k_starA (K := K) rfl rfl (pe_ix (k_ix (K := K) rfl (hu_of hr)) (pv 3) (pv 5) (fun _ _ => rfl)) (pa_cons (pv 6) pa_nil))) rfl)
      (pss_one (ps_expr (k_bm (K := K) rfl PySem.F.plainAttrs_list PySem.F.slot_list_append PySem.F.type_list_append mt_append (pv 2) (pa_cons (pe_ix (k_ix (K := K) rfl (hu_of hr)) (pv 7) pe_int (fun _ _ => rfl)) pa_nil))))) pss_nil)))))))))
      (PSsn.of (pss_one (ps_ret pe_non)))))) (by rfl)), ?_⟩
  rintro ds g Q ⟨⟨b, c, b2, c2⟩, ⟨rfl, rfl, wf, wf2, hl1, hl2⟩, hQ⟩
  replace wf : WfB b.kk b.cc := wf
  replace wf2 : WfB b2.kk b2.cc := wf2
  replace hl1 : c.length ≤ 100 := hl1
  replace hl2 : c2.length ≤ 100 := hl2
  have hz : ("X" : Str) ∈ sortsAll := by decide +kernel
  generalize hO1 : outK b c = O1
  generalize hO2 : outK b2 c2 = O2
  have hno : NoApart begK labsK O1 O2 → ∀ g', Q dN g' := fun h g' => hQ dN g' (.inl ⟨rfl, by subst hO1 hO2; exact h⟩)
  have hway : ∀ n w, WayApart begK labsK O1 O2 w → ∀ g', Q (.lst (w.map (dLab n))) g' := fun n w h g' => hQ _ g' (.inr ⟨n, w, rfl, by subst hO1 hO2; exact h⟩)
  clear hQ
  refine ws_parR (yr_cons (ye_dispT1 ?_))
  walk_at "auto"
  refine ⟨(b, c), rfl, ?_⟩
  refine ye_lst ?_
  walk_at "auto"
  refine ⟨keyK begK, rfl, fun a ha => ?_⟩
  refine yr_one (yr_met0 ?_)
  walk_at "auto"
  refine ⟨_, _, (b, c), .im _ _ _, by decide +kernel, rfl, fun m => ?_⟩
  refine ⟨_, _, rfl, ?_⟩
  have hlabs : res_KL (b, c) m = .lst (labsK.map (dLab m)) := by show D.lst (labK m) = _; rw [labK_eq]
  rw [hlabs]
  obtain ⟨rw1, rc1, hraw⟩ := raw_in (z := "X") m (sorts_ne _ hz)
  refine ws_guard (i := 4) (w := rw1) (c := rc1) rfl ((fun h => by rw [← labK_eq]; unfold labK; simp only [List.mem_append]; exact .inr h) hraw) fun h1m => ?_
  refine ws_seq (ws_set (ye_lstM ?_))
  walk_at "auto"
  refine ⟨(b, c), rfl, ?_⟩
  walk_at "auto"
  intro a2 ha2
  have ne : a ≠ a2 := fun z => ha2 (by simp [z])
  refine ws_seq (ws_while (fun k e gg => ∃ (kw : List ((Str × Str) × List Lab)) (left : List (Str × Str)) (x5 x6 x7 x8 : Option D), e = [some (dKW K b c), some (dKW K b2 c2), some (.v (.ref a2)), some (.v (.ref a)), some (.lst (labsK.map (dLab m))), x5, x6, x7, x8] ∧
    gg = [(a, .dit (kw.map fun p => keyK p.1) (kw.map fun p => .lst (p.2.map (dLab m)))), (a2, .lst (left.map dSk))] ∧ Outr begK labsK O1 O2 setK kw left ∧ k = 2 * ((setK).length - kw.length) + left.length) _ ⟨[(begK, [])], [begK], none, none, none, none, rfl, rfl, Outr.start beginK_in, rfl⟩ ?_)
  rintro k e gg ⟨kw, left, x5, x6, x7, x8, rfl, rfl, ho, rfl⟩
  have hlen := ho.len
  have hU := setK_len
  walk_at "auto"
  refine rc_len (.l _ _ (.mu a2 _ mem_r)) ?_
  walk_at "auto"
  · rename_i hpos
    cases left with
    | nil => cases hpos
    | cons s tl =>
    clear hpos
    refine ⟨ty_list (.mu a2 _ mem_r), ?_⟩
    walk_at "auto"
    refine rm_popAt (d := dSk s) (xs := (s :: tl).map dSk) (j := 0) mem_r (by simp [seqIndex?]) (by decide) (by decide) rfl ?_
    rw [setG_two_r ne]
    show WS _ _ [(a, _), (a2, MO.lst (tl.map dSk))] _
    obtain ⟨w, hin0⟩ := ho.into
    have hsU : s ∈ setK := hin0.sub _ hin0.mem
    refine ws_for (yi_any ?_)
    walk_at "auto"
    refine ⟨_, _, .lst _, fun i e gg => ∃ (kw2 : List ((Str × Str) × List Lab)) (left2 : List (Str × Str)) (x6 x7 x8 : Option D), e = [some (dKW K b c), some (dKW K b2 c2), some (.v (.ref a2)), some (.v (.ref a)), some (.lst (labsK.map (dLab m))), some (dSk s), x6, x7, x8] ∧
      gg = [(a, .dit (kw2.map fun p => keyK p.1) (kw2.map fun p => .lst (p.2.map (dLab m)))), (a2, .lst (left2.map dSk))] ∧ Inn begK labsK O1 O2 setK kw2 left2 s w i kw.length tl.length ∧ kw.length ≤ kw2.length, ⟨kw, tl, x6, x7, x8, rfl, rfl, hin0, Nat.le_refl _⟩, fun _ _ _ _ c hc => by simp at hc, ?_, ?_⟩
    · rintro i d e gg hd ⟨kw2, left2, x6, x7, x8, rfl, rfl, hin, hle⟩
      obtain ⟨lab, hlab, rfl⟩ := map_get hd
      have hlm : lab ∈ labsK := List.mem_of_getElem? hlab
      have hlen2 := hin.len
      have hwl := hin.ln _ hin.mem
      walk_at "auto"
      refine ws_par ?_
      walk_at "auto"
      refine ⟨(b, c, lab, s), ⟨rfl, wf, hl1, okLab_K hlm, setK_isL hsU, hlm⟩, ?_⟩
      walk_at "auto"
      refine ⟨(b2, c2, lab, s), ⟨rfl, wf2, hl2, okLab_K hlm, setK_isL hsU, hlm⟩, ?_⟩
      walk_at "auto"
      refine ⟨_, _, rfl, ?_⟩
      dsimp only
      rw [hO1, hO2]
      have in1 : ∀ p, O1 lab s = some p → p.1 ∈ setK := fun p e => outK_in (okLab_K hlm) hsU (by rw [hO1]; exact e)
      have in2 : ∀ p, O2 lab s = some p → p.1 ∈ setK := fun p e => outK_in (okLab_K hlm) hsU (by rw [hO2]; exact e)
      walk_at "auto"
      refine ye_callQ ?_
      walk_at "auto"
      refine ⟨(m, lab, mapO toK (O1 lab s), mapO toK (O2 lab s)), ⟨by rw [dOutK_L, dOutK_L], fun p hp => ?_, fun p hp => ?_⟩, ?_⟩
      · obtain ⟨q, e, rfl⟩ := Option.map_eq_some_iff.mp (show (O1 lab s).map _ = some p from hp)
        exact setK_ok2 (in1 q e)
      · obtain ⟨q, e, rfl⟩ := Option.map_eq_some_iff.mp (show (O2 lab s).map _ = some p from hp)
        exact setK_ok2 (in2 q e)
      dsimp only
      rw [apart_map toK_inj]
      cases hap : apart lab (O1 lab s) (O2 lab s) with
      | true =>
        walk_at "auto"
        refine ye_lst ?_
        walk_at "auto"
        refine ixA_DT (kk := keyK s) mem_l (dlk_kw (V := fun w => .lst (w.map (dLab m))) keyK_inj hin.nd hin.mem) ?_
        refine ⟨_, .sq _ _ (.l _ _ (.im _)), ?_⟩
        walk_at "auto"
        refine ⟨by rw [List.length_append, List.length_map]; simp only [List.length_cons, List.length_nil]; simp only at hwl; omega, ?_⟩
        have := hway m (w ++ [lab]) ⟨w, s, lab, rfl, hin.way _ hin.mem, hlm, hap⟩ [(a, .dit (kw2.map fun p => keyK p.1) (kw2.map fun p => .lst (p.2.map (dLab m)))), (a2, .lst (left2.map dSk))]
        rw [List.map_append] at this
        exact this
      | false =>
        cases h1 : O1 lab s with
        | none =>
          dsimp only [dOutK]
          walk_at "auto"
          all_goals exact ⟨kw2, left2, _, _, _, rfl, rfl, hin.skip hlab hap (fun p q e1 _ => by rw [h1] at e1; cases e1), hle⟩
        | some p =>
          cases h2 : O2 lab s with
          | none =>
            dsimp only [dOutK]
            walk_at "auto"
            all_goals exact ⟨kw2, left2, _, _, _, rfl, rfl, hin.skip hlab hap (fun p q _ e2 => by rw [h2] at e2; cases e2), hle⟩
          | some q =>
            dsimp only [dOutK]
            walk_at "auto"
            refine inA_DT (neg := true) (kk := keyK p.1) mem_l ?_
            by_cases hm : p.1 ∈ kw2.map (·.1)
            · obtain ⟨r, hr, er⟩ := List.mem_map.mp hm
              rw [show kin (keyK p.1) (kw2.map fun p => keyK p.1) = true from kin_iff.mpr (List.mem_map.mpr ⟨r, hr, by rw [er]⟩)]
              walk_at "auto"
              exact ⟨kw2, left2, _, _, _, rfl, rfl, hin.skip hlab hap (fun p' q' e1 _ => by rw [h1] at e1; cases e1; exact hm), hle⟩
            · rw [show kin (keyK p.1) (kw2.map fun p => keyK p.1) = false from kin_not fun z => by
                obtain ⟨r, hr, e⟩ := List.mem_map.mp z
                exact hm (List.mem_map.mpr ⟨r, hr, keyK_inj _ _ e⟩)]
              walk_at "auto"
              refine ws_dputT (ye_lst ?_)
              walk_at "auto"
              refine ixA_DT (kk := keyK s) mem_l (dlk_kw (V := fun w => .lst (w.map (dLab m))) keyK_inj hin.nd hin.mem) ?_
              refine ⟨_, .sq _ _ (.l _ _ (.im _)), ?_⟩
              walk_at "auto"
              refine ⟨by rw [List.length_append, List.length_map]; simp only [List.length_cons, List.length_nil]; simp only at hwl; omega, ?_⟩
              walk_at "auto"
              refine ⟨a, _, _, keyK p.1, rfl, rfl, mem_l, keys_nd keyK_inj hin.nd, by rw [List.length_map]; omega, ?_⟩
              rw [dput_fresh (by simp) (fun z => by
                obtain ⟨r, hr, e⟩ := List.mem_map.mp z
                exact hm (List.mem_map.mpr ⟨r, hr, keyK_inj _ _ e⟩)), setG_two_l ne]
              walk_at "auto"
              refine ⟨ty_list (.mu a2 _ mem_r), ?_⟩
              walk_at "auto"
              have hms := hin.ll
              refine rm_append mem_r (by rw [List.length_map]; omega) ?_
              rw [setG_two_r ne]
              exact ⟨kw2 ++ [(p.1, w ++ [lab])], left2 ++ [p.1], _, _, _, rfl, by simp [List.map_append], hin.add hlab hap h1 h2 hm (in1 p h1), by rw [List.length_append]; omega⟩
    · rintro e gg ⟨kw2, left2, x6, x7, x8, rfl, rfl, hin, hle⟩
      have hlen2 := hin.len
      have hms := hin.ms
      refine ⟨_, ?_, kw2, left2, _, _, _, _, rfl, rfl, hin.out (by rw [List.length_map]; exact Nat.le_refl _), rfl⟩
      rw [List.length_cons]
      omega
  · rename_i hpos
    cases left with
    | nil =>
      exact hno ho.fin _
    | cons s tl =>
      simp at hpos
end
end Ls
set_option Elab.async false
set_option linter.all false
set_option maxRecDepth 100000
set_option maxHeartbeats 4000000
set_option autoImplicit false
namespace Ls
open PySem PySem.Spec PyProof.Rows L2 Dl
local macro_rules | `(tactic| walk_at "nof") => `(tactic| first
  | with_reducible exact Txt.n_Column_word (by assumption)
  | with_reducible exact Txt.n_Column_home (by assumption)
  | with_reducible exact Txt.n_Column_goal (by assumption)
  | with_reducible exact Txt.n_Column_rule (by assumption)
  | with_reducible exact Txt.n_Book_open_kinds (by assumption)
  | with_reducible exact Txt.n_Book_column_rows (by assumption)
  | with_reducible exact Txt.n_Book_column_table (by assumption)
  | with_reducible exact Txt.n_Book_all_checks (by assumption)
  | with_reducible exact Txt.n_Book_own_checks (by assumption)
  | with_reducible exact Txt.n_Watch_law_book (by assumption)
  | with_reducible exact Txt.n_Watch_home (by assumption)
  | with_reducible exact Txt.n_Watch_can_mark (by assumption)
  | with_reducible exact Txt.n_Watch_sorts (by assumption)
  | with_reducible exact Txt.n_KindWatch_law_book (by assumption)
  | with_reducible exact Txt.n_KindWatch_home (by assumption)
  | with_reducible exact Txt.n_KindWatch_can_mark (by assumption)
  | with_reducible exact Txt.n_KindWatch_sorts (by assumption)
  | with_reducible exact Txt.n_ColumnWatch_law_book (by assumption)
  | with_reducible exact Txt.n_ColumnWatch_home (by assumption)
  | with_reducible exact Txt.n_ColumnWatch_can_mark (by assumption)
  | with_reducible exact Txt.n_ColumnWatch_sorts (by assumption)
  | with_reducible exact Txt.n_ColumnWatch_by (by assumption)
  | with_reducible exact Txt.n_ColumnWatch_goal (by assumption)
  | with_reducible exact Txt.n_ColumnWatch_other_column (by assumption)
  | with_reducible exact Txt.n_Weaver_watch (by assumption)
  | with_reducible exact Txt.n_Weaver_way (by assumption)
  | with_reducible exact Txt.n_Weaver_made (by assumption)
  | with_reducible exact Txt.n_Weaver_held (by assumption)
  | with_reducible exact Txt.n_Weaver_chains (by assumption)
  | with_reducible exact Txt.n_Weaver_unused (by assumption))
local macro_rules | `(tactic| walk_at "cls") => `(tactic| first
  | with_reducible exact Txt.cl_Column (by assumption)
  | with_reducible exact Txt.cl_Book (by assumption)
  | with_reducible exact Txt.cl_Watch (by assumption)
  | with_reducible exact Txt.cl_KindWatch (by assumption)
  | with_reducible exact Txt.cl_ColumnWatch (by assumption)
  | with_reducible exact Txt.cl_Weaver (by assumption))
local macro_rules | `(tactic| walk_at "dlf") => `(tactic| first
  | with_reducible exact dlf_Column_word ..
  | with_reducible exact dlf_Column_home ..
  | with_reducible exact dlf_Column_goal ..
  | with_reducible exact dlf_Column_rule ..
  | with_reducible exact dlf_Book_open_kinds ..
  | with_reducible exact dlf_Book_column_rows ..
  | with_reducible exact dlf_Book_column_table ..
  | with_reducible exact dlf_Book_all_checks ..
  | with_reducible exact dlf_Book_own_checks ..
  | with_reducible exact dlf_Watch_law_book ..
  | with_reducible exact dlf_Watch_home ..
  | with_reducible exact dlf_Watch_can_mark ..
  | with_reducible exact dlf_Watch_sorts ..
  | with_reducible exact dlf_KindWatch_law_book ..
  | with_reducible exact dlf_KindWatch_home ..
  | with_reducible exact dlf_KindWatch_can_mark ..
  | with_reducible exact dlf_KindWatch_sorts ..
  | with_reducible exact dlf_ColumnWatch_law_book ..
  | with_reducible exact dlf_ColumnWatch_home ..
  | with_reducible exact dlf_ColumnWatch_can_mark ..
  | with_reducible exact dlf_ColumnWatch_sorts ..
  | with_reducible exact dlf_ColumnWatch_by ..
  | with_reducible exact dlf_ColumnWatch_goal ..
  | with_reducible exact dlf_ColumnWatch_other_column ..
  | with_reducible exact dlf_Weaver_watch ..
  | with_reducible exact dlf_Weaver_way ..
  | with_reducible exact dlf_Weaver_made ..
  | with_reducible exact dlf_Weaver_held ..
  | with_reducible exact dlf_Weaver_chains ..
  | with_reducible exact dlf_Weaver_unused ..)
local macro_rules | `(tactic| walk_at "len") => `(tactic| first | decide | (simp; done) | omega | (simp; omega) | (simp only [PySem.Str.length_append, sizeLine_eq, len_empty, len_space]; omega))
local macro_rules | `(tactic| walk_at "go1") => `(tactic| first
  | with_reducible refine ws_seq ?_
  | with_reducible refine ws_set ?_
  | with_reducible refine ws_ret ?_
  | with_reducible refine ws_if ?_
  | with_reducible refine ws_drop ?_
  | with_reducible refine ws_next ?_
  | with_reducible refine ws_retN ?_
  | with_reducible refine ws_cont ?_
  | with_reducible refine ws_brk ?_
  | with_reducible refine ws_asg ?_
  | with_reducible refine ye_var (by with_unfolding_all rfl) ?_
  | with_reducible refine ye_c ?_
  | with_reducible refine ye_op ?_
  | with_reducible refine ye_cb ?_
  | with_reducible refine ye_bm ?_
  | with_reducible refine ye_m1 ?_
  | with_reducible refine ye_if ?_
  | with_reducible refine ye_andV ?_
  | with_reducible refine ye_orV ?_
  | with_reducible refine ye_notV ?_
  | with_reducible refine ye_join ?_
  | with_reducible refine ye_fmt ?_
  | with_reducible refine ye_fld ?_
  | with_reducible refine ye_items ?_
  | with_reducible refine ye_sl ?_
  | with_reducible refine ye_tup ?_
  | with_reducible refine yo_none ?_
  | with_reducible refine yo_some ?_
  | with_reducible refine yt_B ?_
  | with_reducible refine yt_test ?_
  | with_reducible refine yt_and ?_
  | with_reducible refine yt_or ?_
  | with_reducible refine yt_not ?_
  | with_reducible refine yt_yes ?_
  | with_reducible refine ya_nil ?_
  | with_reducible refine ya_cons ?_
  | with_reducible refine ya_starA ?_
  | with_reducible refine yj_nil ?_
  | with_reducible refine yj_cons ?_
  | with_reducible refine wg_name ?_
  | with_reducible refine eqA_S ?_
  | with_reducible refine neA_S ?_
  | with_reducible refine eqA_I ?_
  | with_reducible refine neA_I ?_
  | with_reducible refine addA_I ?_
  | with_reducible refine rd_I0 ?_
  | with_reducible refine isi_SS ?_
  | with_reducible refine rc_strS ?_
  | with_reducible refine rd_isN ?_
  | with_reducible refine rd_notN ?_
  | with_reducible refine chain_I ?_
  | with_reducible refine rc_lenS (by walk_at "len") ?_
  | with_reducible refine inA_S ?_
  | with_reducible refine ws_fld1 (by with_unfolding_all rfl) (by walk_at "cls") (by walk_at "nof") (by decide +kernel) (by decide +kernel) ?_
  | with_reducible refine ⟨_, _, _, _, OV.im _ _ _, by walk_at "cls", by walk_at "nof", by walk_at "dlf", ?_⟩
  | with_reducible refine ⟨_, _, _, _, OV.mu _ _ _ _ (List.mem_singleton.mpr rfl), by walk_at "cls", by walk_at "nof", by with_unfolding_all rfl, ?_⟩
  | with_reducible refine ⟨(rfl : ([_] : G) = _), ?_⟩
  | with_reducible refine ⟨_, _, _, rfl, rfl, rfl, ?_⟩
  | refine iteT ?_
  | refine iteF ?_
  | with_reducible refine ⟨_, rfl, ?_⟩
  | with_reducible refine ⟨(by walk_at "len" : List.length _ ≤ _), ?_⟩
  | with_reducible refine ⟨(by walk_at "len" : PySem.Str.length _ ≤ _), ?_⟩)
local macro_rules | `(tactic| walk_at "go") => `(tactic| repeat walk_at "go1")
local macro_rules | `(tactic| walk_at "end") => `(tactic| first | rfl | exact ⟨rfl, rfl⟩ | exact ⟨_, rfl, rfl⟩ | exact ⟨_, _, rfl, rfl⟩)
local macro_rules | `(tactic| walk_at "auto1") => `(tactic| first | walk_at "go1" | walk_at "own" | refine iteT' (by decide +kernel) ?_ | refine iteF' (by decide +kernel) ?_ | refine iteB (fun h => ?_) (fun h => ?_))
local macro_rules | `(tactic| walk_at "auto") => `(tactic| repeat' walk_at "auto1")
local macro_rules | `(tactic| walk_at "own") => `(tactic| first
  | with_reducible refine rd_bookF ?_
  | with_reducible refine rd_bookT ?_
  | with_reducible refine ⟨_, _, OV.im _ _ _, by decide +kernel, ?_⟩
  | with_reducible refine ixA_L (.t _) (by with_unfolding_all rfl) ?_
  | with_reducible refine ixA_L (.r _ _ _) (by with_unfolding_all rfl) ?_
  | with_reducible refine wg_tupN (by repeat constructor) ⟨_, rfl, rfl, rfl, ?_⟩
  | with_reducible refine ye_lackC ?_
  | with_reducible refine inA_b2F ?_
  | with_reducible refine inA_b2T ?_
  | with_reducible refine inA_SF ?_
  | with_reducible refine inA_ST ?_
  | with_reducible refine inA_hereF (by assumption) ?_
  | with_reducible refine inA_hereT (by assumption) ?_
  | with_reducible refine ye_disp ?_
  | with_reducible refine yp_cons ?_
  | with_reducible refine yp_nil ?_
  | with_reducible refine ya_star ?_
  | refine ye_lack (by with_unfolding_all rfl) (by show 1 ≠ 0; decide) ?_
  | refine ye_methQ ?_)
section
variable {P : Program} {w : World} {K : PySem.W.Frag} {mg : Str → Option Value} {base : Heap}
structure TxtE (K : PySem.W.Frag) (mg : Str → Option Value) : Prop where
  g : mg "UnlikeBooks" = some (.ref (He.ga K "UnlikeBooks"))
  x : PySem.W.excIn K (He.ga K "UnlikeBooks") He.veBase "ValueError.__new__" = true
  k : PySem.W.keepIn K (.ref (He.ga K "UnlikeBooks")) = true
  b : PySem.W.subIn K (.ref (He.ga K "UnlikeBooks")) (.type "BaseException") = some true
  t : PySem.W.typeIn K (.ref (He.ga K "UnlikeBooks")) = some (.type "type")
  s : PySem.W.subIn K (.ref (He.ga K "UnlikeBooks")) (.ref (He.ga K "UnlikeBooks")) = some true
noncomputable def watchesD (K : PySem.W.Frag) (b : BookS) : List D := b.cc.map (dCW K b) ++ b.kk.map fun k => dKW K b k.1
/-- a promise of either form -/
def RS.or (R1 R2 : RS) : RS := ⟨fun ds g Q => R1.r ds g Q ∨ R2.r ds g Q, fun ds g P P' h q => q.elim (fun z => .inl (R1.mono ds g P P' h z)) fun z => .inr (R2.mono ds g P P' h z)⟩
theorem fn_or {P : Program} {w : World} {K : PySem.W.Frag} {mg : Str → Option Value} {base : Heap} {CX : CXT} {k1 k2 k : Nat} {f : Addr} {fd : FuncData} {ps : List Str} {R1 R2 : RS} (F1 : FnOk P w K mg base CX k1 f fd ps (spR R1)) (F2 : FnOk P w K mg base CX k2 f fd ps (spR R2)) (h1 : k1 ≤ k) (h2 : k2 ≤ k) : FnOk P w K mg base CX k f fd ps (spR (RS.or R1 R2)) := by
  refine ⟨fun vs H Q E ⟨M, g, ds, c, r, h⟩ => ?_, fun A outer s H args us vs Q E hr e0 hb rv ⟨M, g, ds, c, r, h⟩ => ?_⟩
  · rcases h with h | h
    · exact F1.len vs H Q E ⟨M, g, ds, c, r, h⟩
    · exact F2.len vs H Q E ⟨M, g, ds, c, r, h⟩
  · rcases h with h | h
    · exact F1.run A outer s H args us vs Q E (hr.mono h1) e0 hb rv ⟨M, g, ds, c, r, h⟩
    · exact F2.run A outer s H args us vs Q E (hr.mono h2) e0 hb rv ⟨M, g, ds, c, r, h⟩
noncomputable def R_watches_of (K : PySem.W.Frag) : RS := pureR (α := BookS) (fun b ds => ds = [dBook K b] ∧ WfB b.kk b.cc) (fun b => .lst (watchesD K b))
abbrev N_watches_of : List Str := ["book", "found", "column", "kind"]
theorem sc_watches_of : FnScope N_watches_of ["book"] (defScope (top 44)) := ⟨rfl, rfl, rfl, by decide +kernel, rfl, by decide +kernel, by decide +kernel⟩
theorem ok_watches_of {f : Addr} {fd : FuncData} (T : Txt K mg) (c_ColumnWatch : MkC P w K mg base CX0 3 (He.ga K "ColumnWatch") "ColumnWatch" ["self", "book", "column"] (spR (R_ColumnWatch___init__ K))) (c_KindWatch : MkC P w K mg base CX0 2 (He.ga K "KindWatch") "KindWatch" ["self", "book", "home"] (spR (R_Watch___init__ K))) (F : FunD K "watches_of" "watches_of" (defArgs (top 44)) (defBody (top 44)) (defScope (top 44)) [] [] f fd) : FnOk P w K mg base CX0 5 f fd ["book"] (spR (R_watches_of K)) := by
  refine okW F sc_watches_of (by rintro ds g Q ⟨_, x, ⟨rfl, _⟩, _⟩; rfl) fun cdv A outer s H E hr => ⟨_, PSs.nox (pss_cons (ps_setLc (i := 1) (own := [("column", 2)]) rfl sc_watches_of.nd rfl rfl (sw_true rfl rfl rfl (by decide +kernel)) (pi_values (k_fld (K := K) rfl (pv 0))) (blkOk_by (own := [("column", 2)]) (N := N_watches_of) (sc := defScope (top 44)) (by decide +kernel)) (fun _ _ _ _ _ => (pg_name (i := 2) sc_watches_of.nd rfl (by first | exact Or.inl rfl | exact Or.inr rfl))) (fun _ _ _ _ _ => pts_nil) (fun _ _ _ _ _ => (pe_mkc c_ColumnWatch (hr.mono (by decide)) rfl pass0 (pa_cons (pv 0) (pa_cons (pv 2) pa_nil)))))
      (pss_one (ps_ret (pe_lst (k_starA (K := K) rfl rfl (pv 1) (k_starA (K := K) rfl rfl (pe_lc (own := [("kind", 3)]) rfl sc_watches_of.nd (k_any (K := K) rfl (k_fld (K := K) rfl (pv 0))) (blkOk_by (own := [("kind", 3)]) (N := N_watches_of) (sc := defScope (top 44)) (by decide +kernel)) (fun _ _ _ _ _ => (pg_name (i := 3) sc_watches_of.nd rfl (by first | exact Or.inl rfl | exact Or.inr rfl))) (fun _ _ _ _ _ => pts_nil) (fun _ _ _ _ _ => (pe_mkc c_KindWatch (hr.mono (by decide)) rfl pass0 (pa_cons (pv 0) (pa_cons (pv 3) pa_nil))))) pa_nil)))))), ?_⟩
  rintro ds g Q ⟨rfl, b, ⟨rfl, wf⟩, hQ⟩
  have hfew := wf.names.few
  rw [List.length_append, List.length_map, List.length_map] at hfew
  try dsimp only
  walk_at "auto"
  refine lc_map (α := Col) (fun c => dCW K b c) (yi_values ?_)
  walk_at "auto"
  refine ⟨_, _, rfl, fun c hc => by simp at hc, b.cc, dCol K, rfl, by omega, fun c hc => wgc_name (by simp) ?_, ?_⟩
  · walk_at "auto"
    refine ye_makeQ ?_
    walk_at "auto"
    intro a ha
    exact ⟨(a, b, c), _, _, ⟨rfl, rfl, ⟨wf, hc⟩⟩, rfl, rfl, rfl⟩
  walk_at "auto"
  refine ye_lst ?_
  walk_at "auto"
  refine ⟨_, .sq _ _ (.l _ _ (.im _)), ?_⟩
  walk_at "auto"
  refine lc_map (α := Str × Bool) (fun k => dKW K b k.1) (yi_any ?_)
  walk_at "auto"
  refine ⟨_, _, .keys _ _, fun c hc => by simp at hc, b.kk, fun k => dS k.1, by rw [List.map_map]; rfl, by omega, fun k hk => wgc_name (by simp) ?_, ?_⟩
  · walk_at "auto"
    refine ye_makeQ ?_
    walk_at "auto"
    intro a ha
    exact ⟨(a, true, b, k.1), _, _, ⟨rfl, rfl, wf⟩, rfl, rfl, rfl⟩
  walk_at "auto"
  refine ⟨_, .sq _ _ (.l _ _ (.im _)), ?_⟩
  walk_at "auto"
  have hQ2 := hQ
  rw [List.append_nil]
  exact hQ2
def pre_E (K : PySem.W.Frag) (ds : List D) : Prop := ∃ a b : BookS, ds = [dBook K a, dBook K b] ∧ WfB a.kk a.cc ∧ WfB b.kk b.cc ∧ likeB a b = false
abbrev N_check_like_E : List Str := ["one", "other"]
theorem sc_check_like_E : FnScope N_check_like_E ["one", "other"] (defScope (top 25)) := ⟨rfl, rfl, rfl, by decide +kernel, rfl, by decide +kernel, by decide +kernel⟩
theorem ok_check_like_E {f : Addr} {fd : FuncData} (T : Txt K mg) (c_are_like : Cal P w K mg base CX0 1 "are_like" ["one", "other"] (spR (R_are_like K))) (TE : TxtE K mg) (F : FunD K "check_like" "check_like" (defArgs (top 25)) (defBody (top 25)) (defScope (top 25)) [] [] f fd) : FnOk P w K mg base (CX P w) 2 f fd ["one", "other"] (spE (pre_E K) (He.ga K "UnlikeBooks")) := by
  refine okE F sc_check_like_E (by rintro ds ⟨a, b, rfl, _⟩; rfl) fun cdv A outer s H E hr => ⟨_, (pss_one (ps_if (pt_not (pt_val (pe_cal c_are_like (hr.mono (by decide)) rfl pass0 (pa_cons (pv 0) (pa_cons (pv 1) pa_nil))))) (pss_one (ps_raise rfl (takes_of rfl rfl rfl rfl) (pmk_own0 PySem.F.excBase_ValueError TE.x TE.g TE.k (raises_own TE.b TE.t) rfl))) pss_nil)), ?_⟩
  rintro ds ⟨a, b, rfl, wa, wb, hl⟩
  refine we_if ?_
  walk_at "auto"
  refine ye_callQ ?_
  walk_at "auto"
  refine ⟨(a, b), ⟨rfl, wa, wb⟩, ?_⟩
  rw [hl]
  walk_at "auto"
  exact we_raise
abbrev N_parting_E : List Str := ["one", "other", "first", "second", "way"]
theorem sc_parting_E : FnScope N_parting_E ["one", "other"] (defScope (top 45)) := ⟨rfl, rfl, rfl, by decide +kernel, rfl, by decide +kernel, by decide +kernel⟩
theorem ok_parting_E {f : Addr} {fd : FuncData} (T : Txt K mg) (c_check_like_E : Cal P w K mg base (CX P w) 3 "check_like" ["one", "other"] (spE (pre_E K) (He.ga K "UnlikeBooks"))) (F : FunD K "parting" "parting" (defArgs (top 45)) (defBody (top 45)) (defScope (top 45)) [] [] f fd) : FnOk P w K mg base (CX P w) 4 f fd ["one", "other"] (spE (pre_E K) (He.ga K "UnlikeBooks")) := by
  refine okE F sc_parting_E (by rintro ds ⟨a, b, rfl, _⟩; rfl) fun cdv A outer s H E hr => ⟨_, (pss_cons (ps_expr (pe_cal c_check_like_E (hr.mono (by decide)) rfl (passes_call (takes_of rfl rfl rfl rfl) (fun _ _ _ _ h => h)) (pa_cons (pv 0) (pa_cons (pv 1) pa_nil)))) (pss_cons ps_never (pss_one ps_never))), ?_⟩
  rintro ds ⟨a, b, rfl, wa, wb, hl⟩
  refine we_seq (we_call ?_)
  walk_at "auto"
  exact ⟨rfl, a, b, rfl, wa, wb, hl⟩
theorem zip_watches {K : PySem.W.Frag} {a b : BookS} (hk : a.kk = b.kk) (hc : a.cc = b.cc) : (watchesD K a).zip (watchesD K b) = (a.cc.map fun c => (dCW K a c, dCW K b c)) ++ a.kk.map fun k => (dKW K a k.1, dKW K b k.1) := by
  unfold watchesD
  rw [← hk, ← hc, List.zip_append (by simp), List.zip_map', List.zip_map']
def sameB (a b : BookS) : Prop := (∀ c ∈ a.cc, NoApC (a, c, b, c)) ∧ ∀ k ∈ a.kk, NoApK (a, k.1, b, k.1)
noncomputable def R_parting (K : PySem.W.Frag) : RS := pureR (α := BookS × BookS) (fun x ds => ds = [dBook K x.1, dBook K x.2] ∧ WfB x.1.kk x.1.cc ∧ WfB x.2.kk x.2.cc ∧ likeB x.1 x.2 = true ∧ sameB x.1 x.2) (fun _ => dN)
abbrev N_parting : List Str := ["one", "other", "first", "second", "way"]
theorem sc_parting : FnScope N_parting ["one", "other"] (defScope (top 45)) := ⟨rfl, rfl, rfl, by decide +kernel, rfl, by decide +kernel, by decide +kernel⟩
theorem ok_parting {f : Addr} {fd : FuncData} (T : Txt K mg) (c_check_like : Cal P w K mg base CX0 2 "check_like" ["one", "other"] (spR (R_check_like K))) (c_watches_of : Cal P w K mg base CX0 5 "watches_of" ["book"] (spR (R_watches_of K))) (c_way_apart : Cal P w K mg base CX0 8 "way_apart" ["first", "second"] (spR (RS.or (R_way_apart_C K) (R_way_apart_K K)))) (F : FunD K "parting" "parting" (defArgs (top 45)) (defBody (top 45)) (defScope (top 45)) [] [] f fd) : FnOk P w K mg base CX0 9 f fd ["one", "other"] (spR (R_parting K)) := by
  refine okW F sc_parting (by rintro ds g Q ⟨_, x, ⟨rfl, _⟩, _⟩; rfl) fun cdv A outer s H E hr => ⟨_, PSs.nox (pss_cons (ps_expr (pe_cal c_check_like (hr.mono (by decide)) rfl pass0 (pa_cons (pv 0) (pa_cons (pv 1) pa_nil))))
      (pss_cons (ps_for PassesOwn.never rfl (k_zip (K := K) rfl (by rfl) T.f_zip (pa_cons (pe_cal c_watches_of (hr.mono (by decide)) rfl pass0 (pa_cons (pv 0) pa_nil)) (pa_cons (pe_cal c_watches_of (hr.mono (by decide)) rfl pass0 (pa_cons (pv 1) pa_nil)) pa_nil))) (k_tup (K := K) (n := 2) rfl rfl (pgs_cons (pg_name (i := 2) sc_parting.nd rfl (by first | exact Or.inl rfl | exact Or.inr rfl)) (pgs_cons (pg_name (i := 3) sc_parting.nd rfl (by first | exact Or.inl rfl | exact Or.inr rfl)) pgs_nil))) (pss_cons (ps_set (i := 4) sc_parting.nd rfl (by first | exact Or.inl rfl | exact Or.inr rfl) (pe_cal c_way_apart (hr.mono (by decide)) rfl pass0 (pa_cons (pv 2) (pa_cons (pv 3) pa_nil))))
      (pss_one (ps_if (pt_cmpR op_notNn (pv 4) pe_non (nomark _)) (pss_one ps_never) pss_nil))))
      (pss_one (ps_ret pe_non)))), ?_⟩
  rintro ds g Q ⟨rfl, ⟨a, b⟩, ⟨rfl, wa, wb, hl, hs⟩, hQ⟩
  replace wa : WfB a.kk a.cc := wa
  replace wb : WfB b.kk b.cc := wb
  replace hl : likeB a b = true := hl
  replace hs : sameB a b := hs
  have hkk : a.kk = b.kk := by unfold likeB at hl; simp at hl; exact hl.1
  have hcc : a.cc = b.cc := by unfold likeB at hl; simp at hl; exact hl.2
  dsimp only
  walk_at "auto"
  refine ye_callQ ?_
  walk_at "auto"
  refine ⟨(a, b), ⟨rfl, wa, wb, hl⟩, ?_⟩
  walk_at "auto"
  refine ws_for (yi_zip ?_)
  walk_at "auto"
  refine ye_callQ ?_
  walk_at "auto"
  refine ⟨a, ⟨rfl, wa⟩, ?_⟩
  walk_at "auto"
  refine ye_callQ ?_
  walk_at "auto"
  refine ⟨b, ⟨rfl, wb⟩, ?_⟩
  walk_at "auto"
  refine ⟨_, _, rfl, ?_⟩
  rw [zip_watches hkk hcc]
  refine ⟨fun i e gg => ∃ x2 x3 x4, e = [some (dBook K a), some (dBook K b), x2, x3, x4] ∧ gg = [], ⟨none, none, none, rfl, rfl⟩, fun _ _ _ _ c hc => by simp at hc, ?_, ?_⟩
  · rintro i d e gg hd ⟨x2, x3, x4, rfl, rfl⟩
    obtain ⟨p, hp, rfl⟩ := map_get hd
    have hmem := List.mem_of_getElem? hp
    have key : ∀ (P' : D → G → Prop), (∀ d g', d = dN → P' d g') → (RS.or (R_way_apart_C K) (R_way_apart_K K)).r [p.1, p.2] [] P' := by
      intro P' hP
      rcases List.mem_append.mp hmem with h | h
      · obtain ⟨c, hc, rfl⟩ := List.mem_map.mp h
        refine .inl ⟨(a, c, b, c), ⟨rfl, rfl, ⟨wa, hc⟩, ⟨wb, hcc ▸ hc⟩, rfl⟩, fun d g' post => ?_⟩
        rcases post with ⟨rfl, _⟩ | ⟨n, w, rfl, hw⟩
        · exact hP _ _ rfl
        · exact absurd hw (NoApart.not_way (hs.1 c hc))
      · obtain ⟨k, hk, rfl⟩ := List.mem_map.mp h
        have hkl : k.1.length ≤ 100 := by
          have := wa.names.len k.1 (List.mem_append_left _ (List.mem_map.mpr ⟨k, hk, rfl⟩)); omega
        refine .inr ⟨(a, k.1, b, k.1), ⟨rfl, rfl, wa, wb, hkl, hkl⟩, fun d g' post => ?_⟩
        rcases post with ⟨rfl, _⟩ | ⟨n, w, rfl, hw⟩
        · exact hP _ _ rfl
        · exact absurd hw (NoApart.not_way (hs.2 k hk))
    refine wg_tupN (by repeat constructor) ⟨_, rfl, rfl, rfl, ?_⟩
    refine ws_seq (ws_set (ye_sub (ye_call ?_)))
    walk_at "auto"
    refine ⟨[], [], rfl, key _ fun d g' e => ?_⟩
    subst e
    refine ⟨[], by simp, ?_⟩
    walk_at "auto"
    exact ⟨_, _, _, rfl, rfl⟩
  · rintro e gg ⟨x2, x3, x4, rfl, rfl⟩
    walk_at "auto"
    exact hQ
end
end Ls
set_option Elab.async false
set_option linter.all false
set_option maxRecDepth 100000
set_option maxHeartbeats 4000000
set_option autoImplicit false
namespace Ls
open PySem PySem.Spec PyProof.Rows L2 Dl
local macro_rules | `(tactic| walk_at "nof") => `(tactic| first
  | with_reducible exact Txt.n_Column_word (by assumption)
  | with_reducible exact Txt.n_Column_home (by assumption)
  | with_reducible exact Txt.n_Column_goal (by assumption)
  | with_reducible exact Txt.n_Column_rule (by assumption)
  | with_reducible exact Txt.n_Book_open_kinds (by assumption)
  | with_reducible exact Txt.n_Book_column_rows (by assumption)
  | with_reducible exact Txt.n_Book_column_table (by assumption)
  | with_reducible exact Txt.n_Book_all_checks (by assumption)
  | with_reducible exact Txt.n_Book_own_checks (by assumption)
  | with_reducible exact Txt.n_Watch_law_book (by assumption)
  | with_reducible exact Txt.n_Watch_home (by assumption)
  | with_reducible exact Txt.n_Watch_can_mark (by assumption)
  | with_reducible exact Txt.n_Watch_sorts (by assumption)
  | with_reducible exact Txt.n_KindWatch_law_book (by assumption)
  | with_reducible exact Txt.n_KindWatch_home (by assumption)
  | with_reducible exact Txt.n_KindWatch_can_mark (by assumption)
  | with_reducible exact Txt.n_KindWatch_sorts (by assumption)
  | with_reducible exact Txt.n_ColumnWatch_law_book (by assumption)
  | with_reducible exact Txt.n_ColumnWatch_home (by assumption)
  | with_reducible exact Txt.n_ColumnWatch_can_mark (by assumption)
  | with_reducible exact Txt.n_ColumnWatch_sorts (by assumption)
  | with_reducible exact Txt.n_ColumnWatch_by (by assumption)
  | with_reducible exact Txt.n_ColumnWatch_goal (by assumption)
  | with_reducible exact Txt.n_ColumnWatch_other_column (by assumption)
  | with_reducible exact Txt.n_Weaver_watch (by assumption)
  | with_reducible exact Txt.n_Weaver_way (by assumption)
  | with_reducible exact Txt.n_Weaver_made (by assumption)
  | with_reducible exact Txt.n_Weaver_held (by assumption)
  | with_reducible exact Txt.n_Weaver_chains (by assumption)
  | with_reducible exact Txt.n_Weaver_unused (by assumption))
local macro_rules | `(tactic| walk_at "cls") => `(tactic| first
  | with_reducible exact Txt.cl_Column (by assumption)
  | with_reducible exact Txt.cl_Book (by assumption)
  | with_reducible exact Txt.cl_Watch (by assumption)
  | with_reducible exact Txt.cl_KindWatch (by assumption)
  | with_reducible exact Txt.cl_ColumnWatch (by assumption)
  | with_reducible exact Txt.cl_Weaver (by assumption))
local macro_rules | `(tactic| walk_at "dlf") => `(tactic| first
  | with_reducible exact dlf_Column_word ..
  | with_reducible exact dlf_Column_home ..
  | with_reducible exact dlf_Column_goal ..
  | with_reducible exact dlf_Column_rule ..
  | with_reducible exact dlf_Book_open_kinds ..
  | with_reducible exact dlf_Book_column_rows ..
  | with_reducible exact dlf_Book_column_table ..
  | with_reducible exact dlf_Book_all_checks ..
  | with_reducible exact dlf_Book_own_checks ..
  | with_reducible exact dlf_Watch_law_book ..
  | with_reducible exact dlf_Watch_home ..
  | with_reducible exact dlf_Watch_can_mark ..
  | with_reducible exact dlf_Watch_sorts ..
  | with_reducible exact dlf_KindWatch_law_book ..
  | with_reducible exact dlf_KindWatch_home ..
  | with_reducible exact dlf_KindWatch_can_mark ..
  | with_reducible exact dlf_KindWatch_sorts ..
  | with_reducible exact dlf_ColumnWatch_law_book ..
  | with_reducible exact dlf_ColumnWatch_home ..
  | with_reducible exact dlf_ColumnWatch_can_mark ..
  | with_reducible exact dlf_ColumnWatch_sorts ..
  | with_reducible exact dlf_ColumnWatch_by ..
  | with_reducible exact dlf_ColumnWatch_goal ..
  | with_reducible exact dlf_ColumnWatch_other_column ..
  | with_reducible exact dlf_Weaver_watch ..
  | with_reducible exact dlf_Weaver_way ..
  | with_reducible exact dlf_Weaver_made ..
  | with_reducible exact dlf_Weaver_held ..
  | with_reducible exact dlf_Weaver_chains ..
  | with_reducible exact dlf_Weaver_unused ..)
local macro_rules | `(tactic| walk_at "len") => `(tactic| first | decide | (simp; done) | omega | (simp; omega) | (simp only [PySem.Str.length_append, sizeLine_eq, len_empty, len_space]; omega))
local macro_rules | `(tactic| walk_at "go1") => `(tactic| first
  | with_reducible refine ws_seq ?_
  | with_reducible refine ws_set ?_
  | with_reducible refine ws_ret ?_
  | with_reducible refine ws_if ?_
  | with_reducible refine ws_drop ?_
  | with_reducible refine ws_next ?_
  | with_reducible refine ws_retN ?_
  | with_reducible refine ws_cont ?_
  | with_reducible refine ws_brk ?_
  | with_reducible refine ws_asg ?_
  | with_reducible refine ye_var (by with_unfolding_all rfl) ?_
  | with_reducible refine ye_c ?_
  | with_reducible refine ye_op ?_
  | with_reducible refine ye_cb ?_
  | with_reducible refine ye_bm ?_
  | with_reducible refine ye_m1 ?_
  | with_reducible refine ye_if ?_
  | with_reducible refine ye_andV ?_
  | with_reducible refine ye_orV ?_
  | with_reducible refine ye_notV ?_
  | with_reducible refine ye_join ?_
  | with_reducible refine ye_fmt ?_
  | with_reducible refine ye_fld ?_
  | with_reducible refine ye_items ?_
  | with_reducible refine ye_sl ?_
  | with_reducible refine ye_tup ?_
  | with_reducible refine yo_none ?_
  | with_reducible refine yo_some ?_
  | with_reducible refine yt_B ?_
  | with_reducible refine yt_test ?_
  | with_reducible refine yt_and ?_
  | with_reducible refine yt_or ?_
  | with_reducible refine yt_not ?_
  | with_reducible refine yt_yes ?_
  | with_reducible refine ya_nil ?_
  | with_reducible refine ya_cons ?_
  | with_reducible refine ya_starA ?_
  | with_reducible refine yj_nil ?_
  | with_reducible refine yj_cons ?_
  | with_reducible refine wg_name ?_
  | with_reducible refine eqA_S ?_
  | with_reducible refine neA_S ?_
  | with_reducible refine eqA_I ?_
  | with_reducible refine neA_I ?_
  | with_reducible refine addA_I ?_
  | with_reducible refine rd_I0 ?_
  | with_reducible refine isi_SS ?_
  | with_reducible refine rc_strS ?_
  | with_reducible refine rd_isN ?_
  | with_reducible refine rd_notN ?_
  | with_reducible refine chain_I ?_
  | with_reducible refine rc_lenS (by walk_at "len") ?_
  | with_reducible refine inA_S ?_
  | with_reducible refine ws_fld1 (by with_unfolding_all rfl) (by walk_at "cls") (by walk_at "nof") (by decide +kernel) (by decide +kernel) ?_
  | with_reducible refine ⟨_, _, _, _, OV.im _ _ _, by walk_at "cls", by walk_at "nof", by walk_at "dlf", ?_⟩
  | with_reducible refine ⟨_, _, _, _, OV.mu _ _ _ _ (List.mem_singleton.mpr rfl), by walk_at "cls", by walk_at "nof", by with_unfolding_all rfl, ?_⟩
  | with_reducible refine ⟨(rfl : ([_] : G) = _), ?_⟩
  | with_reducible refine ⟨_, _, _, rfl, rfl, rfl, ?_⟩
  | refine iteT ?_
  | refine iteF ?_
  | with_reducible refine ⟨_, rfl, ?_⟩
  | with_reducible refine ⟨(by walk_at "len" : List.length _ ≤ _), ?_⟩
  | with_reducible refine ⟨(by walk_at "len" : PySem.Str.length _ ≤ _), ?_⟩)
local macro_rules | `(tactic| walk_at "go") => `(tactic| repeat walk_at "go1")
local macro_rules | `(tactic| walk_at "end") => `(tactic| first | rfl | exact ⟨rfl, rfl⟩ | exact ⟨_, rfl, rfl⟩ | exact ⟨_, _, rfl, rfl⟩)
local macro_rules | `(tactic| walk_at "auto1") => `(tactic| first | walk_at "go1" | walk_at "own" | refine iteT' (by decide +kernel) ?_ | refine iteF' (by decide +kernel) ?_ | refine iteB (fun h => ?_) (fun h => ?_))
local macro_rules | `(tactic| walk_at "auto") => `(tactic| repeat' walk_at "auto1")
local macro_rules | `(tactic| walk_at "own") => `(tactic| first
  | with_reducible refine rd_bookF ?_
  | with_reducible refine rd_bookT ?_
  | with_reducible refine ⟨_, _, OV.im _ _ _, by decide +kernel, ?_⟩
  | with_reducible refine ixA_L (.t _) (by with_unfolding_all rfl) ?_
  | with_reducible refine ixA_L (.r _ _ _) (by with_unfolding_all rfl) ?_
  | with_reducible refine wg_tupN (by repeat constructor) ⟨_, rfl, rfl, rfl, ?_⟩
  | with_reducible refine ye_lackC ?_
  | with_reducible refine inA_b2F ?_
  | with_reducible refine inA_b2T ?_
  | with_reducible refine inA_SF ?_
  | with_reducible refine inA_ST ?_
  | with_reducible refine inA_hereF (by assumption) ?_
  | with_reducible refine inA_hereT (by assumption) ?_
  | with_reducible refine ye_disp ?_
  | with_reducible refine yp_cons ?_
  | with_reducible refine yp_nil ?_
  | with_reducible refine ya_star ?_
  | refine ye_lack (by with_unfolding_all rfl) (by show 1 ≠ 0; decide) ?_
  | refine ye_methQ ?_)
section
variable {P : Program} {w : World} {K : PySem.W.Frag} {mg : Str → Option Value} {base : Heap}
/-! ### the law's own stream of numbers -/
structure Strm where
  n1 : Int
  n2 : Int
  n3 : Int
  ns : List Int
structure StOk (k : Nat) (s : Strm) : Prop where
  h1 : 0 ≤ s.n1
  h2 : 0 ≤ s.n2
  h2k : s.n2 ≤ k
  h3 : 0 ≤ s.n3
  h3k : s.n3 < 2147483647
abbrev strG (sA sB : Addr) (s : Strm) : G := [(sA, .lst [.v (.ref sB), dI s.n1, dI s.n2, dI s.n3]), (sB, .lst (s.ns.map dI))]
theorem rc_int1 {g : G} {i : Int} {Ψ : D → G → Prop} (q : Ψ (dI i) g) : RC (fun xs H Q => (∃ i, xs = [V.int i] ∧ Q (.int i) H) ∨ ∃ k, xs = [V.bl k] ∧ Q (.int (if k then 1 else 0)) H) [dI i] g Ψ := rc_flat1 (fun H Q h => .inl ⟨i, rfl, h⟩) q
def R_draw : RS := ndR (α := Addr × Addr × Strm × Int × Nat) (fun x ds g => ds = [.v (.ref x.1), dI x.2.2.2.1] ∧ g = strG x.1 x.2.1 x.2.2.1 ∧ x.1 ≠ x.2.1 ∧ StOk x.2.2.2.2 x.2.2.1 ∧ x.2.2.2.2 < 1000000 ∧ 1 ≤ x.2.2.2.1 ∧ x.2.2.2.1 < 1000000)
  (fun x d g' => ∃ r s', d = dI r ∧ 0 ≤ r ∧ r < x.2.2.2.1 ∧ g' = strG x.1 x.2.1 s' ∧ StOk (x.2.2.2.2 + 1) s')
theorem set4_1 {a b c d x : D} : ([a, b, c, d] : List D).set 1 x = [a, x, c, d] := rfl
theorem set4_2 {a b c d x : D} : ([a, b, c, d] : List D).set 2 x = [a, b, x, d] := rfl
theorem set4_3 {a b c d x : D} : ([a, b, c, d] : List D).set 3 x = [a, b, c, x] := rfl
theorem memL {α : Type} {x y : α} : x ∈ [x, y] := List.mem_cons_self
theorem memR {α : Type} {x y : α} : y ∈ [x, y] := List.mem_cons_of_mem _ (List.mem_singleton.mpr rfl)
theorem ints_py : ∀ ns : List Int, isPys 59 (ns.map dI) = true := fun ns => isPys_map fun _ _ => by simp [isPy]
theorem ixA_cell {K : PySem.W.Frag} {g : G} {a : Addr} {xs : List D} {i : Int} {d : D} {Ψ : D → G → Prop} (hm : (a, MO.lst xs) ∈ g) (e : atI xs i = some d) (q : Ψ d g) : RD (rIxA K) (.v (.ref a)) (dI i) g Ψ := ixA_L (.l _ _ (.mu a xs hm)) e q
abbrev N__law_draw : List Str := ["_law_stream", "_law_many", "_law_mixed_here", "_law_digit"]
theorem sc__law_draw : FnScope N__law_draw ["_law_stream", "_law_many"] (defScope (top 47)) := ⟨rfl, rfl, rfl, by decide +kernel, rfl, by decide +kernel, by decide +kernel⟩
theorem ok__law_draw {f : Addr} {fd : FuncData} (T : Txt K mg)  (F : FunD K "_law_draw" "_law_draw" (defArgs (top 47)) (defBody (top 47)) (defScope (top 47)) [] [] f fd) : FnOk P w K mg base CX0 1 f fd ["_law_stream", "_law_many"] (spR R_draw) := by
  refine okW F sc__law_draw (by rintro ds g Q ⟨x, ⟨rfl, _⟩, _⟩; rfl) fun cdv A outer s H E hr => ⟨_, PSs.nox (pss_cons (ps_asg (pe_op op_addA (pe_ix (k_ix (K := K) rfl (hu_of hr)) (pv 0) pe_int (fun _ _ => rfl)) pe_int) (pg_sub (pv 0) pe_int set_list))
      (pss_cons (ps_if (PW.pt (pw_and (pt_cmpR (k_eq (K := K) rfl hr.units) (pe_ix (k_ix (K := K) rfl (hu_of hr)) (pv 0) pe_int (fun _ _ => rfl)) pe_int (nomark _)) (pw_and1 (pt_cmpR (k_ne (K := K) rfl hr.units) (pe_ix (k_ix (K := K) rfl (hu_of hr)) (pv 0) pe_int (fun _ _ => rfl)) (pe_lst pa_nil) (nomark _))))) (pss_cons (ps_asg (k_bm (K := K) rfl PySem.F.plainAttrs_list PySem.F.slot_list_pop PySem.F.type_list_pop mt_popAt (pe_ix (k_ix (K := K) rfl (hu_of hr)) (pv 0) pe_int (fun _ _ => rfl)) (pa_cons pe_int pa_nil)) (pg_sub (pv 0) pe_int set_list))
      (pss_one (ps_if (pt_cmpR op_lt (pe_ix (k_ix (K := K) rfl (hu_of hr)) (pv 0) pe_int (fun _ _ => rfl)) (pe_op op_pow pe_int pe_int) (nomark _)) (pss_cons (ps_asg (pe_op op_mod (pe_callTy call_int1 (by rfl) T.f_int boot_int (pa_cons (pe_op op_addA (pe_op op_addA (pe_op op_mul (pe_ix (k_ix (K := K) rfl (hu_of hr)) (pv 0) pe_int (fun _ _ => rfl)) pe_int) (pe_ix (k_ix (K := K) rfl (hu_of hr)) (pv 0) pe_int (fun _ _ => rfl))) pe_int) pa_nil)) pe_int) (pg_sub (pv 0) pe_int set_list))
      (pss_one (ps_asg pe_int (pg_sub (pv 0) pe_int set_list)))) pss_nil))) pss_nil)
      (pss_cons (ps_if (pt_cmpR op_gt (pe_ix (k_ix (K := K) rfl (hu_of hr)) (pv 0) pe_int (fun _ _ => rfl)) pe_int (nomark _)) (pss_cons (ps_set (i := 3) sc__law_draw.nd rfl (by first | exact Or.inl rfl | exact Or.inr rfl) (pe_op op_mod (pe_callTy call_int1 (by rfl) T.f_int boot_int (pa_cons (pe_ix (k_ix (K := K) rfl (hu_of hr)) (pv 0) pe_int (fun _ _ => rfl)) pa_nil)) (pv 1)))
      (pss_cons (ps_asg (pe_op op_fdiv (pe_ix (k_ix (K := K) rfl (hu_of hr)) (pv 0) pe_int (fun _ _ => rfl)) (pv 1)) (pg_sub (pv 0) pe_int set_list))
      (pss_one (ps_ret (pe_frz (pv 3)))))) pss_nil)
      (pss_cons (ps_set (i := 2) sc__law_draw.nd rfl (by first | exact Or.inl rfl | exact Or.inr rfl) (pe_op op_mod (pe_op op_pow (pe_op op_addA (pe_op op_addA (pe_ix (k_ix (K := K) rfl (hu_of hr)) (pv 0) pe_int (fun _ _ => rfl)) (pe_op op_mul pe_int (pe_ix (k_ix (K := K) rfl (hu_of hr)) (pv 0) pe_int (fun _ _ => rfl)))) pe_int) pe_int) pe_int))
      (pss_one (ps_ret (pe_op op_mod (pe_op op_mod (pe_op op_pow (pe_op op_addA (pe_op op_addA (pe_op op_mul (pv 2) pe_int) (pe_op op_mul (pe_op op_mul pe_int (pe_ix (k_ix (K := K) rfl (hu_of hr)) (pv 0) pe_int (fun _ _ => rfl))) (pe_ix (k_ix (K := K) rfl (hu_of hr)) (pv 0) pe_int (fun _ _ => rfl)))) pe_int) pe_int) pe_int) (pv 1)))))))), ?_⟩
  rintro ds g Q ⟨⟨sA, sB, ⟨n1, n2, n3, ns⟩, many, k⟩, ⟨rfl, rfl, ne, hs, hk, hm1, hm2⟩, hQ⟩
  replace ne : sA ≠ sB := ne
  replace hs : StOk k ⟨n1, n2, n3, ns⟩ := hs
  replace hk : k < 1000000 := hk
  replace hm1 : 1 ≤ many := hm1
  replace hm2 : many < 1000000 := hm2
  replace hQ : ∀ r s', 0 ≤ r → r < many → StOk (k + 1) s' → Q (dI r) (strG sA sB s') := fun r s' a b c => hQ _ _ ⟨r, s', rfl, a, b, rfl, c⟩
  obtain ⟨h1, h2, h2k, h3, h3k⟩ := hs
  simp only at h1 h2 h2k h3 h3k
  dsimp only
  refine ws_seq (ws_asg ?_)
  walk_at "auto"
  refine ixA_cell memL rfl ?_
  walk_at "auto"
  refine wg_sub ?_
  walk_at "auto"
  refine ⟨sA, _, 2, 2, rfl, rfl, memL, rfl, ?_⟩
  rw [setG_two_l ne, set4_2]
  show WS _ _ _ _
  refine ws_via (fun e gg => ∃ m1 m3 ms, e = [some (.v (.ref sA)), some (dI many), none, none] ∧ gg = strG sA sB ⟨m1, n2 + 1, m3, ms⟩ ∧ 0 ≤ m1 ∧ 0 ≤ m3 ∧ m3 < 2147483647) ?_ ?_
  · refine ws_if ?_
    walk_at "auto"
    refine ixA_cell memL rfl ?_
    walk_at "auto"
    · rename_i hz
      refine ixA_cell memL rfl ?_
      walk_at "auto"
      refine ye_lst ?_
      walk_at "auto"
      refine neA_C (.mu sB _ memR) (.im _) (ints_py _) rfl ?_
      cases ns with
      | nil =>
        rw [show PyData.eqvAll (pyOfs (List.map dI [])) (pyOfs []) = true from rfl]
        walk_at "auto"
        exact ⟨n1, n3, [], rfl, rfl, h1, h3, h3k⟩
      | cons n ns =>
        rw [show PyData.eqvAll (pyOfs (List.map dI (n :: ns))) (pyOfs []) = false from rfl]
        walk_at "auto"
        refine ixA_cell memL rfl ?_
        walk_at "auto"
        refine ⟨ty_list (.mu sB _ memR), ?_⟩
        walk_at "auto"
        refine rm_popAt (d := dI n) (xs := (n :: ns).map dI) (j := 0) memR (by simp [seqIndex?]) (by decide) (by decide) rfl ?_
        rw [setG_two_r ne]
        refine wg_sub ?_
        walk_at "auto"
        refine ⟨sA, _, 1, 1, rfl, rfl, memL, rfl, ?_⟩
        rw [setG_two_l ne, set4_1]
        walk_at "auto"
        refine ixA_cell memL rfl ?_
        walk_at "auto"
        refine rd_I (C := CPow) ⟨by decide, by decide, by decide⟩ ?_
        walk_at "auto"
        · refine ixA_cell memL rfl ?_
          walk_at "auto"
          refine op_mulR2 ⟨by decide, by decide⟩ ?_
          walk_at "auto"
          refine ixA_cell memL rfl ?_
          walk_at "auto"
          refine rc_int1 ?_
          walk_at "auto"
          refine rd_I (C := fun _ j => 0 < j) (by decide) ?_
          refine wg_sub ?_
          walk_at "auto"
          refine ⟨sA, _, 3, 3, rfl, rfl, memL, rfl, ?_⟩
          rw [setG_two_l ne, set4_3]
          walk_at "auto"
          refine wg_sub ?_
          walk_at "auto"
          refine ⟨sA, _, 1, 1, rfl, rfl, memL, rfl, ?_⟩
          rw [setG_two_l ne, set4_1]
          exact ⟨0, _, ns, rfl, rfl, by decide, Int.emod_nonneg _ (by decide), Int.emod_lt_of_pos _ (by decide)⟩
        · rename_i hn
          refine ⟨n, n3, ns, rfl, rfl, ?_, h3, h3k⟩
          have : ¬ n < 10 ^ (18 : Int).toNat := by simpa using hn
          have e : (10 : Int) ^ (18 : Int).toNat = 1000000000000000000 := by decide
          rw [e] at this
          omega
    · exact ⟨n1, n3, ns, rfl, rfl, h1, h3, h3k⟩
  · rintro e gg ⟨m1, m3, ms, rfl, rfl, hm1', hm3, hm3k⟩
    have hk2 : n2 + 1 ≤ (k : Int) + 1 := by omega
    walk_at "auto"
    refine ixA_cell memL rfl ?_
    walk_at "auto"
    · refine ixA_cell memL rfl ?_
      walk_at "auto"
      refine rc_int1 ?_
      walk_at "auto"
      refine rd_I (C := fun _ j => 0 < j) (by omega) ?_
      walk_at "auto"
      refine ixA_cell memL rfl ?_
      walk_at "auto"
      refine rd_I (C := CDiv) ⟨by omega, by omega⟩ ?_
      refine wg_sub ?_
      walk_at "auto"
      refine ⟨sA, _, 1, 1, rfl, rfl, memL, rfl, ?_⟩
      rw [setG_two_l ne, set4_1]
      walk_at "auto"
      refine ye_nofrz ?_
      walk_at "auto"
      exact hQ (m1 % many) ⟨m1 / many, n2 + 1, m3, ms⟩ (Int.emod_nonneg _ (by omega)) (Int.emod_lt_of_pos _ (by omega)) ⟨Int.ediv_nonneg hm1' (by omega), by show 0 ≤ n2 + 1; omega, by show n2 + 1 ≤ ((k + 1 : Nat) : Int); omega, hm3, hm3k⟩
    · refine ixA_cell memL rfl ?_
      walk_at "auto"
      refine ixA_cell memL rfl ?_
      walk_at "auto"
      refine op_mulR ⟨by decide, by decide⟩ ?_
      walk_at "auto"
      refine rd_I (C := CPow) ⟨by decide, by decide, by dsimp only; omega⟩ ?_
      walk_at "auto"
      refine rd_I (C := fun _ j => 0 < j) (by decide) ?_
      generalize hmx : (m3 + 104729 * (n2 + 1) + 17) ^ (5 : Int).toNat % 2147483629 = mx
      have hmx0 : 0 ≤ mx := by rw [← hmx]; exact Int.emod_nonneg _ (by decide)
      have hmx1 : mx < 2147483629 := by rw [← hmx]; exact Int.emod_lt_of_pos _ (by decide)
      generalize hN : n2 + 1 = N
      have hN0 : 0 ≤ N := by omega
      have hN1 : N ≤ 1000001 := by omega
      have hsq : N * N ≤ 1000001 * 1000001 := Int.mul_le_mul hN1 hN1 hN0 (by decide)
      have hsq0 : 0 ≤ N * N := Int.mul_nonneg hN0 hN0
      have hsq2 : 40503 * N * N = 40503 * (N * N) := Int.mul_assoc _ _ _
      walk_at "auto"
      refine op_mulR2 ⟨by decide, by decide⟩ ?_
      walk_at "auto"
      refine ixA_cell memL rfl ?_
      walk_at "auto"
      refine op_mulR ⟨by decide, by decide⟩ ?_
      walk_at "auto"
      refine ixA_cell memL rfl ?_
      walk_at "auto"
      refine op_mulR ⟨by dsimp only; omega, by dsimp only; omega⟩ ?_
      walk_at "auto"
      refine rd_I (C := CPow) ⟨by decide, by decide, by dsimp only; rw [hsq2]; omega⟩ ?_
      walk_at "auto"
      refine rd_I (C := fun _ j => 0 < j) (by decide) ?_
      walk_at "auto"
      refine rd_I (C := fun _ j => 0 < j) (by omega) ?_
      exact hQ _ ⟨m1, N, m3, ms⟩ (Int.emod_nonneg _ (by omega)) (Int.emod_lt_of_pos _ (by omega)) ⟨hm1', hN0, by show N ≤ ((k + 1 : Nat) : Int); omega, hm3, hm3k⟩
/-- a draw: some number below many -/
theorem ye_draw {tr : TA} {X : XK} {env : DEnv} {g : G} {Ψ : D → G → Prop} {sA sB : Addr} {s : Strm} {k : Nat} {gr : G} (ne : sA ≠ sB) (hs : StOk k s) (hk : k < 1000000)
    (h : YA tr env g fun ds g1 => ∃ many : Int, ds = [.v (.ref sA), dI many] ∧ g1 = strG sA sB s ++ gr ∧ 1 ≤ many ∧ many < 1000000 ∧ ∀ r s', 0 ≤ r → r < many → StOk (k + 1) s' → Ψ (dI r) (strG sA sB s' ++ gr)) : YE (tCall (spR R_draw) [] X tr) env g Ψ :=
  ye_call fun M σ H s0 Q q => h M σ H s0 Q fun ds g1 vs H1 ⟨many, e1, e2, m1, m2, hq⟩ t c r => q ds g1 vs H1 ⟨strG sA sB s, gr, e2, ⟨(sA, sB, s, many, k), ⟨e1, rfl, ne, hs, hk, m1, m2⟩, fun d g' ⟨x, s', e3, r0, r1, e4, ok⟩ => by subst e3 e4; exact hq x s' r0 r1 ok⟩⟩ t c r
def R_pick : RS := ndR (α := Addr × Addr × Strm × Nat × List D) (fun x ds g => ds = [.v (.ref x.1), .lst x.2.2.2.2] ∧ g = strG x.1 x.2.1 x.2.2.1 ∧ x.1 ≠ x.2.1 ∧ StOk x.2.2.2.1 x.2.2.1 ∧ x.2.2.2.1 < 1000000 ∧ x.2.2.2.2 ≠ [] ∧ x.2.2.2.2.length < 1000000)
  (fun x d g' => ∃ s', d ∈ x.2.2.2.2 ∧ g' = strG x.1 x.2.1 s' ∧ StOk (x.2.2.2.1 + 1) s')
theorem atI_of {xs : List D} {r : Int} (h0 : 0 ≤ r) (h1 : r < xs.length) : ∃ d ∈ xs, atI xs r = some d := by
  have h2 : r.toNat < xs.length := by omega
  refine ⟨xs[r.toNat], List.getElem_mem h2, ?_⟩
  show (ixN xs.length r).bind (fun j => xs[j]?) = _
  unfold ixN
  rw [if_pos h0, if_pos h1]
  simp [h2]
abbrev N__law_pick : List Str := ["_law_stream", "_law_things"]
theorem sc__law_pick : FnScope N__law_pick ["_law_stream", "_law_things"] (defScope (top 48)) := ⟨rfl, rfl, rfl, by decide +kernel, rfl, by decide +kernel, by decide +kernel⟩
theorem ok__law_pick {f : Addr} {fd : FuncData} (T : Txt K mg) (c__law_draw : Cal P w K mg base CX0 1 "_law_draw" ["_law_stream", "_law_many"] (spR R_draw)) (F : FunD K "_law_pick" "_law_pick" (defArgs (top 48)) (defBody (top 48)) (defScope (top 48)) [] [] f fd) : FnOk P w K mg base CX0 2 f fd ["_law_stream", "_law_things"] (spR R_pick) := by
  refine okW F sc__law_pick (by rintro ds g Q ⟨x, ⟨rfl, _⟩, _⟩; rfl) fun cdv A outer s H E hr => ⟨_, PSs.nox (pss_one (ps_ret (pe_ix (k_ix (K := K) rfl (hu_of hr)) (pv 1) (pe_cal c__law_draw (hr.mono (by decide)) rfl pass0 (pa_cons (pv 0) (pa_cons (pe_callB (k_len (K := K) rfl) (by rfl) T.f_len (by decide +kernel) (pa_cons (pv 1) pa_nil)) pa_nil))) (fun _ _ => rfl)))), ?_⟩
  rintro ds g Q ⟨⟨sA, sB, s, k, xs⟩, ⟨rfl, rfl, ne, hs, hk, hne, hl⟩, hQ⟩
  replace hs : StOk k s := hs
  replace hne : xs ≠ [] := hne
  replace hl : xs.length < 1000000 := hl
  have hpos : 0 < xs.length := List.length_pos_iff.mpr hne
  dsimp only
  walk_at "auto"
  refine ye_draw (gr := []) ne hs hk ?_
  walk_at "auto"
  refine rc_len (.l _ _ (.im _)) ?_
  walk_at "auto"
  refine ⟨by simp, by omega, by omega, fun r s' h0 h1 ok => ?_⟩
  obtain ⟨d, hd, e⟩ := atI_of h0 h1
  exact ixA_L (.l _ _ (.im _)) e (hQ d _ ⟨s', hd, by simp, ok⟩)
end
end Ls
set_option Elab.async false
set_option linter.all false
set_option maxRecDepth 100000
set_option maxHeartbeats 4000000
set_option autoImplicit false
namespace Ls
open PySem PySem.Spec PyProof.Rows L2 Dl
local macro_rules | `(tactic| walk_at "nof") => `(tactic| first
  | with_reducible exact Txt.n_Column_word (by assumption)
  | with_reducible exact Txt.n_Column_home (by assumption)
  | with_reducible exact Txt.n_Column_goal (by assumption)
  | with_reducible exact Txt.n_Column_rule (by assumption)
  | with_reducible exact Txt.n_Book_open_kinds (by assumption)
  | with_reducible exact Txt.n_Book_column_rows (by assumption)
  | with_reducible exact Txt.n_Book_column_table (by assumption)
  | with_reducible exact Txt.n_Book_all_checks (by assumption)
  | with_reducible exact Txt.n_Book_own_checks (by assumption)
  | with_reducible exact Txt.n_Watch_law_book (by assumption)
  | with_reducible exact Txt.n_Watch_home (by assumption)
  | with_reducible exact Txt.n_Watch_can_mark (by assumption)
  | with_reducible exact Txt.n_Watch_sorts (by assumption)
  | with_reducible exact Txt.n_KindWatch_law_book (by assumption)
  | with_reducible exact Txt.n_KindWatch_home (by assumption)
  | with_reducible exact Txt.n_KindWatch_can_mark (by assumption)
  | with_reducible exact Txt.n_KindWatch_sorts (by assumption)
  | with_reducible exact Txt.n_ColumnWatch_law_book (by assumption)
  | with_reducible exact Txt.n_ColumnWatch_home (by assumption)
  | with_reducible exact Txt.n_ColumnWatch_can_mark (by assumption)
  | with_reducible exact Txt.n_ColumnWatch_sorts (by assumption)
  | with_reducible exact Txt.n_ColumnWatch_by (by assumption)
  | with_reducible exact Txt.n_ColumnWatch_goal (by assumption)
  | with_reducible exact Txt.n_ColumnWatch_other_column (by assumption)
  | with_reducible exact Txt.n_Weaver_watch (by assumption)
  | with_reducible exact Txt.n_Weaver_way (by assumption)
  | with_reducible exact Txt.n_Weaver_made (by assumption)
  | with_reducible exact Txt.n_Weaver_held (by assumption)
  | with_reducible exact Txt.n_Weaver_chains (by assumption)
  | with_reducible exact Txt.n_Weaver_unused (by assumption))
local macro_rules | `(tactic| walk_at "cls") => `(tactic| first
  | with_reducible exact Txt.cl_Column (by assumption)
  | with_reducible exact Txt.cl_Book (by assumption)
  | with_reducible exact Txt.cl_Watch (by assumption)
  | with_reducible exact Txt.cl_KindWatch (by assumption)
  | with_reducible exact Txt.cl_ColumnWatch (by assumption)
  | with_reducible exact Txt.cl_Weaver (by assumption))
local macro_rules | `(tactic| walk_at "dlf") => `(tactic| first
  | with_reducible exact dlf_Column_word ..
  | with_reducible exact dlf_Column_home ..
  | with_reducible exact dlf_Column_goal ..
  | with_reducible exact dlf_Column_rule ..
  | with_reducible exact dlf_Book_open_kinds ..
  | with_reducible exact dlf_Book_column_rows ..
  | with_reducible exact dlf_Book_column_table ..
  | with_reducible exact dlf_Book_all_checks ..
  | with_reducible exact dlf_Book_own_checks ..
  | with_reducible exact dlf_Watch_law_book ..
  | with_reducible exact dlf_Watch_home ..
  | with_reducible exact dlf_Watch_can_mark ..
  | with_reducible exact dlf_Watch_sorts ..
  | with_reducible exact dlf_KindWatch_law_book ..
  | with_reducible exact dlf_KindWatch_home ..
  | with_reducible exact dlf_KindWatch_can_mark ..
  | with_reducible exact dlf_KindWatch_sorts ..
  | with_reducible exact dlf_ColumnWatch_law_book ..
  | with_reducible exact dlf_ColumnWatch_home ..
  | with_reducible exact dlf_ColumnWatch_can_mark ..
  | with_reducible exact dlf_ColumnWatch_sorts ..
  | with_reducible exact dlf_ColumnWatch_by ..
  | with_reducible exact dlf_ColumnWatch_goal ..
  | with_reducible exact dlf_ColumnWatch_other_column ..
  | with_reducible exact dlf_Weaver_watch ..
  | with_reducible exact dlf_Weaver_way ..
  | with_reducible exact dlf_Weaver_made ..
  | with_reducible exact dlf_Weaver_held ..
  | with_reducible exact dlf_Weaver_chains ..
  | with_reducible exact dlf_Weaver_unused ..)
local macro_rules | `(tactic| walk_at "len") => `(tactic| first | decide | (simp; done) | omega | (simp; omega) | (simp only [PySem.Str.length_append, sizeLine_eq, len_empty, len_space]; omega))
local macro_rules | `(tactic| walk_at "go1") => `(tactic| first
  | with_reducible refine ws_seq ?_
  | with_reducible refine ws_set ?_
  | with_reducible refine ws_ret ?_
  | with_reducible refine ws_if ?_
  | with_reducible refine ws_drop ?_
  | with_reducible refine ws_next ?_
  | with_reducible refine ws_retN ?_
  | with_reducible refine ws_cont ?_
  | with_reducible refine ws_brk ?_
  | with_reducible refine ws_asg ?_
  | with_reducible refine ye_var (by with_unfolding_all rfl) ?_
  | with_reducible refine ye_c ?_
  | with_reducible refine ye_op ?_
  | with_reducible refine ye_cb ?_
  | with_reducible refine ye_bm ?_
  | with_reducible refine ye_m1 ?_
  | with_reducible refine ye_if ?_
  | with_reducible refine ye_andV ?_
  | with_reducible refine ye_orV ?_
  | with_reducible refine ye_notV ?_
  | with_reducible refine ye_join ?_
  | with_reducible refine ye_fmt ?_
  | with_reducible refine ye_fld ?_
  | with_reducible refine ye_items ?_
  | with_reducible refine ye_sl ?_
  | with_reducible refine ye_tup ?_
  | with_reducible refine yo_none ?_
  | with_reducible refine yo_some ?_
  | with_reducible refine yt_B ?_
  | with_reducible refine yt_test ?_
  | with_reducible refine yt_and ?_
  | with_reducible refine yt_or ?_
  | with_reducible refine yt_not ?_
  | with_reducible refine yt_yes ?_
  | with_reducible refine ya_nil ?_
  | with_reducible refine ya_cons ?_
  | with_reducible refine ya_starA ?_
  | with_reducible refine yj_nil ?_
  | with_reducible refine yj_cons ?_
  | with_reducible refine wg_name ?_
  | with_reducible refine eqA_S ?_
  | with_reducible refine neA_S ?_
  | with_reducible refine eqA_I ?_
  | with_reducible refine neA_I ?_
  | with_reducible refine addA_I ?_
  | with_reducible refine rd_I0 ?_
  | with_reducible refine isi_SS ?_
  | with_reducible refine rc_strS ?_
  | with_reducible refine rd_isN ?_
  | with_reducible refine rd_notN ?_
  | with_reducible refine chain_I ?_
  | with_reducible refine rc_lenS (by walk_at "len") ?_
  | with_reducible refine inA_S ?_
  | with_reducible refine ws_fld1 (by with_unfolding_all rfl) (by walk_at "cls") (by walk_at "nof") (by decide +kernel) (by decide +kernel) ?_
  | with_reducible refine ⟨_, _, _, _, OV.im _ _ _, by walk_at "cls", by walk_at "nof", by walk_at "dlf", ?_⟩
  | with_reducible refine ⟨_, _, _, _, OV.mu _ _ _ _ (List.mem_singleton.mpr rfl), by walk_at "cls", by walk_at "nof", by with_unfolding_all rfl, ?_⟩
  | with_reducible refine ⟨(rfl : ([_] : G) = _), ?_⟩
  | with_reducible refine ⟨_, _, _, rfl, rfl, rfl, ?_⟩
  | refine iteT ?_
  | refine iteF ?_
  | with_reducible refine ⟨_, rfl, ?_⟩
  | with_reducible refine ⟨(by walk_at "len" : List.length _ ≤ _), ?_⟩
  | with_reducible refine ⟨(by walk_at "len" : PySem.Str.length _ ≤ _), ?_⟩)
local macro_rules | `(tactic| walk_at "go") => `(tactic| repeat walk_at "go1")
local macro_rules | `(tactic| walk_at "end") => `(tactic| first | rfl | exact ⟨rfl, rfl⟩ | exact ⟨_, rfl, rfl⟩ | exact ⟨_, _, rfl, rfl⟩)
local macro_rules | `(tactic| walk_at "auto1") => `(tactic| first | walk_at "go1" | walk_at "own" | refine iteT' (by decide +kernel) ?_ | refine iteF' (by decide +kernel) ?_ | refine iteB (fun h => ?_) (fun h => ?_))
local macro_rules | `(tactic| walk_at "auto") => `(tactic| repeat' walk_at "auto1")
local macro_rules | `(tactic| walk_at "own") => `(tactic| first
  | with_reducible refine rd_bookF ?_
  | with_reducible refine rd_bookT ?_
  | with_reducible refine ⟨_, _, OV.im _ _ _, by decide +kernel, ?_⟩
  | with_reducible refine ixA_L (.t _) (by with_unfolding_all rfl) ?_
  | with_reducible refine ixA_L (.r _ _ _) (by with_unfolding_all rfl) ?_
  | with_reducible refine wg_tupN (by repeat constructor) ⟨_, rfl, rfl, rfl, ?_⟩
  | with_reducible refine ye_lackC ?_
  | with_reducible refine inA_b2F ?_
  | with_reducible refine inA_b2T ?_
  | with_reducible refine inA_SF ?_
  | with_reducible refine inA_ST ?_
  | with_reducible refine inA_hereF (by assumption) ?_
  | with_reducible refine inA_hereT (by assumption) ?_
  | with_reducible refine ye_disp ?_
  | with_reducible refine yp_cons ?_
  | with_reducible refine yp_nil ?_
  | with_reducible refine ya_star ?_
  | refine ye_lack (by with_unfolding_all rfl) (by show 1 ≠ 0; decide) ?_
  | refine ye_methQ ?_)
section
variable {P : Program} {w : World} {K : PySem.W.Frag} {mg : Str → Option Value} {base : Heap}
theorem setG_last {g1 : G} {a : Addr} {m m' : MO} (h : a ∉ ks g1) : setG (g1 ++ [(a, m)]) a m' = g1 ++ [(a, m')] := by
  unfold setG
  rw [List.map_append]
  congr 1
  · refine (List.map_congr_left fun p hp => if_neg fun e => h ?_).trans (List.map_id' _)
    exact List.mem_map.mpr ⟨p, hp, e⟩
  · simp
theorem mem_last {α : Type} {l : List α} {x : α} : x ∈ l ++ [x] := List.mem_append_right _ (List.mem_singleton.mpr rfl)
theorem ks_strG {sA sB : Addr} {s : Strm} : ks (strG sA sB s) = [sA, sB] := rfl
theorem notin_strG {sA sB a : Addr} {s s' : Strm} (h : a ∉ ks (strG sA sB s)) : a ∉ ks (strG sA sB s') := h
theorem erase_perm {α : Type} : ∀ {l : List α} {j : Nat} {d : α}, l[j]? = some d → (d :: l.eraseIdx j).Perm l
  | [], j, d, h => by simp at h
  | x :: l, 0, d, h => by simp at h; subst h; exact .refl _
  | x :: l, j + 1, d, h => by
    have := erase_perm (l := l) (j := j) (d := d) (by simpa using h)
    exact (List.Perm.swap x d _).trans (this.cons x)
theorem seqIx {r : Int} {n : Nat} (h0 : 0 ≤ r) (h1 : r < n) : seqIndex? r n = some r.toNat := by
  unfold seqIndex?
  have : ¬ r < 0 := by omega
  simp [this, h0, h1]
def R_mixed : RS := ndR (α := Addr × Addr × Strm × Nat × List D) (fun x ds g => ds = [.v (.ref x.1), .lst x.2.2.2.2] ∧ g = strG x.1 x.2.1 x.2.2.1 ∧ x.1 ≠ x.2.1 ∧ StOk x.2.2.2.1 x.2.2.1 ∧ x.2.2.2.1 < 900000 ∧ x.2.2.2.2.length ≤ 1000)
  (fun x d g' => ∃ ys s', d = .lst ys ∧ ys.Perm x.2.2.2.2 ∧ g' = strG x.1 x.2.1 s' ∧ StOk (x.2.2.2.1 + x.2.2.2.2.length) s')
abbrev N__law_mixed : List Str := ["_law_stream", "_law_things", "_law_left", "_law_k"]
theorem sc__law_mixed : FnScope N__law_mixed ["_law_stream", "_law_things"] (defScope (top 49)) := ⟨rfl, rfl, rfl, by decide +kernel, rfl, by decide +kernel, by decide +kernel⟩
theorem ok__law_mixed {f : Addr} {fd : FuncData} (T : Txt K mg) (c__law_draw : Cal P w K mg base CX0 1 "_law_draw" ["_law_stream", "_law_many"] (spR R_draw)) (F : FunD K "_law_mixed" "_law_mixed" (defArgs (top 49)) (defBody (top 49)) (defScope (top 49)) [] [] f fd) : FnOk P w K mg base CX0 2 f fd ["_law_stream", "_law_things"] (spR R_mixed) := by
  refine okW F sc__law_mixed (by rintro ds g Q ⟨x, ⟨rfl, _⟩, _⟩; rfl) fun cdv A outer s H E hr => ⟨_, PSs.nox (pss_cons (ps_set (i := 2) sc__law_mixed.nd rfl (by first | exact Or.inl rfl | exact Or.inr rfl) (pe_callTy (k_list (K := K) rfl) (by rfl) T.f_list boot_list (pa_cons (pv 1) pa_nil)))
      (pss_one (ps_ret (pe_lc (own := [("_law_k", 3)]) rfl sc__law_mixed.nd (pi_range1 (by rfl) T.f_range (pa_cons (pe_callB (k_len (K := K) rfl) (by rfl) T.f_len (by decide +kernel) (pa_cons (pv 2) pa_nil)) pa_nil)) (blkOk_by (own := [("_law_k", 3)]) (N := N__law_mixed) (sc := defScope (top 49)) (by decide +kernel)) (fun _ _ _ _ _ => (pg_name (i := 3) sc__law_mixed.nd rfl (by first | exact Or.inl rfl | exact Or.inr rfl))) (fun _ _ _ _ _ => pts_nil) (fun _ _ _ _ _ => (k_bm (K := K) rfl PySem.F.plainAttrs_list PySem.F.slot_list_pop PySem.F.type_list_pop mt_popAt (pv 2) (pa_cons (pe_cal c__law_draw (hr.mono (by decide)) rfl pass0 (pa_cons (pv 0) (pa_cons (pe_callB (k_len (K := K) rfl) (by rfl) T.f_len (by decide +kernel) (pa_cons (pv 2) pa_nil)) pa_nil))) pa_nil))))))), ?_⟩
  rintro ds g Q ⟨⟨sA, sB, s, k, xs⟩, ⟨rfl, rfl, ne, hs, hk, hl⟩, hQ⟩
  replace ne : sA ≠ sB := ne
  replace hs : StOk k s := hs
  replace hk : k < 900000 := hk
  replace hl : xs.length ≤ 1000 := hl
  replace hQ : ∀ ys s', ys.Perm xs → StOk (k + xs.length) s' → Q (.lst ys) (strG sA sB s') := fun ys s' a b => hQ _ _ ⟨ys, s', rfl, a, rfl, b⟩
  dsimp only
  walk_at "auto"
  refine rc_listM (.l _ _ (.im _)) fun a ha => ?_
  walk_at "auto"
  refine ye_sub (ye_lc (yi_range1 ?_))
  walk_at "auto"
  refine rc_len (.l _ _ (.mu a xs mem_last)) ?_
  walk_at "auto"
  refine ⟨by omega, fun i acc gg => ∃ s' left, gg = strG sA sB s' ++ [(a, .lst left)] ∧ StOk (k + i) s' ∧ (acc ++ left).Perm xs ∧ left.length + i = xs.length, ⟨s, xs, rfl, hs, .refl _, rfl⟩, fun _ _ _ _ c hc => by simp at hc, ?_, ?_⟩
  · rintro i d acc gg hd ⟨s', left, rfl, ok, hp, hlen⟩
    obtain ⟨j, hj, rfl⟩ := map_get hd
    have hi : i < xs.length := by
      have := (List.getElem?_eq_some_iff.mp hj).1
      simpa using this
    refine wgc_name (by simp) ?_
    walk_at "auto"
    refine ⟨ty_list (.mu a _ mem_last), ?_⟩
    walk_at "auto"
    refine ye_draw (gr := [(a, .lst left)]) ne ok (by omega) ?_
    walk_at "auto"
    refine rc_len (.l _ _ (.mu a _ mem_last)) ?_
    walk_at "auto"
    refine ⟨rfl, by omega, by omega, fun r s2 h0 h1 ok2 => ?_⟩
    walk_at "auto"
    have h2 : r.toNat < left.length := by omega
    refine rm_popAt (d := left[r.toNat]) (xs := left) (j := r.toNat) mem_last (seqIx h0 h1) (by omega) (by omega) (by simp [h2]) ?_
    rw [setG_last (notin_strG ha)]
    have hp2 := hp.length_eq
    rw [List.length_append] at hp2
    refine ⟨by omega, s2, left.eraseIdx r.toNat, rfl, ok2, ?_, by rw [List.length_eraseIdx_of_lt h2]; omega⟩
    rw [List.append_assoc]
    exact (List.Perm.append_left acc (erase_perm (by simp [h2]))).trans hp
  · rintro acc gg ⟨s', left, rfl, ok, hp, hlen⟩
    rw [List.length_map, List.length_range] at ok hlen
    have : left = [] := List.length_eq_zero_iff.mp (by omega)
    subst this
    rw [List.append_nil] at hp
    exact ⟨strG sA sB s', List.sublist_append_left _ _, hQ _ _ hp ok⟩
def isLow (c : Nat) : Bool := decide (c ∈ letters.cps.toList)
theorem sum_ones : ∀ ls : List Nat, ((ls.map s1).map (·.length)).sum = ls.length
  | [] => rfl
  | a :: ls => by
    rw [List.map_cons, List.map_cons, List.sum_cons, sum_ones ls, List.length_cons]
    show 1 + ls.length = ls.length + 1
    omega
theorem join_ones : ∀ ls : List Nat, Txt.join "" (ls.map s1) = ⟨ls.toArray⟩ := by
  have h : ∀ ls : List Nat, Str.join Str.empty (ls.map s1) = ⟨ls.toArray⟩ := by
    intro ls
    induction ls with
    | nil => rfl
    | cons a ls ih =>
      cases ls with
      | nil => rfl
      | cons b ls =>
        show s1 a ++ Str.empty ++ Str.join Str.empty ((b :: ls).map s1) = _
        rw [ih]
        show (⟨(#[a] ++ #[]) ++ (b :: ls).toArray⟩ : Str) = _
        congr 1
        simp
  intro ls
  rw [TL.join_eq]
  exact h ls
theorem isName_ones {ls : List Nat} (h1 : 1 ≤ ls.length) (h8 : ls.length ≤ 8) (hc : ∀ c ∈ ls, c ∈ letters.cps.toList) (hs : (⟨ls.toArray⟩ : Str) ≠ "strike") : isName ⟨ls.toArray⟩ = true := by
  have hl : (⟨ls.toArray⟩ : Str).length = ls.length := by simp [Str.length]
  unfold isName
  rw [hl, decide_eq_true h1, decide_eq_true h8, decide_eq_false hs]
  simp only [Bool.not_false, Bool.and_true, Bool.true_and, List.all_eq_true, decide_eq_true_eq]
  intro c h
  exact hc c (by simpa using h)
def wordsL : List Str := ["kind", "open", "column", "from", "to", "check", "fall", "clear", "lone", "fresh", "put", "turn", "fell", "spread", "stuck", "again", "bare", "hold"]
theorem words_name : ∀ w ∈ wordsL, isName w = true ∧ w.length ≤ 8 := by decide +kernel
def qNames : List Str := letters.cps.toList.map fun c => "q" ++ s1 c
theorem q_name : ∀ w ∈ qNames, isName w = true ∧ w.length ≤ 8 := by decide +kernel
theorem q_nodup : qNames.Nodup := by decide +kernel
theorem q_len : qNames.length = 26 := by decide +kernel
theorem letters_size : letters.cps.size = 26 := by decide +kernel
theorem q_left {ns : List Str} (h : ns.length < 26) : ∃ w, (qNames.filter fun w => !decide (w ∈ ns)).head? = some w ∧ w ∈ qNames ∧ w ∉ ns := by
  cases e : qNames.filter fun w => !decide (w ∈ ns) with
  | nil =>
    have hsub : ∀ w ∈ qNames, w ∈ ns := fun w hw => by
      apply Classical.byContradiction
      intro n
      have : w ∈ qNames.filter fun w => !decide (w ∈ ns) := List.mem_filter.mpr ⟨hw, by simp [n]⟩
      rw [e] at this; cases this
    have := List.Nodup.length_le_of_subset q_nodup hsub
    rw [q_len] at this
    omega
  | cons w l =>
    have hw : w ∈ qNames.filter fun w => !decide (w ∈ ns) := by rw [e]; simp
    obtain ⟨h1, h2⟩ := List.mem_filter.mp hw
    exact ⟨w, rfl, h1, by simpa using h2⟩
theorem head_atI {α : Type} {l : List α} {w : α} (h : l.head? = some w) : atI l 0 = some w := by
  cases l with
  | nil => cases h
  | cons x l =>
    cases h
    show (ixN (w :: l).length 0).bind _ = _
    unfold ixN
    rw [if_pos (by decide), if_pos (by rw [List.length_cons]; omega)]
    rfl
def R_fresh : RS := ndR (α := Addr × Addr × Addr × Strm × Nat × List Str) (fun x ds g => ds = [.v (.ref x.1), .v (.ref x.2.2.1)] ∧ g = strG x.1 x.2.1 x.2.2.2.1 ++ [(x.2.2.1, .lst (x.2.2.2.2.2.map dS))] ∧ x.1 ≠ x.2.1 ∧ StOk x.2.2.2.2.1 x.2.2.2.1 ∧ x.2.2.2.2.1 < 900000 ∧ x.2.2.2.2.2.length ≤ 20)
  (fun x d g' => ∃ nm s', d = dS nm ∧ isName nm = true ∧ nm.length ≤ 8 ∧ nm ∉ x.2.2.2.2.2 ∧ g' = strG x.1 x.2.1 s' ++ [(x.2.2.1, .lst (x.2.2.2.2.2.map dS))] ∧ StOk (x.2.2.2.2.1 + 12) s')
theorem StOk.le {k k' : Nat} {s : Strm} (h : StOk k s) (l : k ≤ k') : StOk k' s := ⟨h.h1, h.h2, by have := h.h2k; omega, h.h3, h.h3k⟩
abbrev N__law_fresh : List Str := ["_law_stream", "_law_taken", "_law_words", "_law_name", "_law_letters", "_law_k", "_law_one", "_law_sign"]
theorem sc__law_fresh : FnScope N__law_fresh ["_law_stream", "_law_taken"] (defScope (top 50)) := ⟨rfl, rfl, rfl, by decide +kernel, rfl, by decide +kernel, by decide +kernel⟩
theorem ok__law_fresh {f : Addr} {fd : FuncData} (T : Txt K mg) (c__law_draw : Cal P w K mg base CX0 1 "_law_draw" ["_law_stream", "_law_many"] (spR R_draw)) (F : FunD K "_law_fresh" "_law_fresh" (defArgs (top 50)) (defBody (top 50)) (defScope (top 50)) [] [] f fd) : FnOk P w K mg base CX0 2 f fd ["_law_stream", "_law_taken"] (spR R_fresh) := by
  refine okW F sc__law_fresh (by rintro ds g Q ⟨x, ⟨rfl, _⟩, _⟩; rfl) fun cdv A outer s H E hr => ⟨_, PSs.nox (pss_cons (ps_asg (pe_tup (pa_cons pe_str (pa_cons (pe_lst (pa_cons pe_str (pa_cons pe_str (pa_cons pe_str (pa_cons pe_str (pa_cons pe_str (pa_cons pe_str (pa_cons pe_str pa_nil)))))))) pa_nil))) (k_tup (K := K) (n := 2) rfl rfl (pgs_cons (pg_name (i := 4) sc__law_fresh.nd rfl (by first | exact Or.inl rfl | exact Or.inr rfl)) (pgs_cons (pg_name (i := 2) sc__law_fresh.nd rfl (by first | exact Or.inl rfl | exact Or.inr rfl)) pgs_nil))))
      (pss_cons (ps_set (i := 2) sc__law_fresh.nd rfl (by first | exact Or.inl rfl | exact Or.inr rfl) (pe_op op_addA (pv 2) (pe_lst (pa_cons pe_str (pa_cons pe_str (pa_cons pe_str (pa_cons pe_str (pa_cons pe_str (pa_cons pe_str (pa_cons pe_str (pa_cons pe_str (pa_cons pe_str (pa_cons pe_str (pa_cons pe_str pa_nil))))))))))))))
      (pss_cons (ps_set (i := 3) sc__law_fresh.nd rfl (by first | exact Or.inl rfl | exact Or.inr rfl) (k_join (K := K) rfl pe_str (pe_lc (own := [("_law_k", 5)]) rfl sc__law_fresh.nd (pi_range1 (by rfl) T.f_range (pa_cons (pe_op op_addA pe_int (pe_cal c__law_draw (hr.mono (by decide)) rfl pass0 (pa_cons (pv 0) (pa_cons pe_int pa_nil)))) pa_nil)) (blkOk_by (own := [("_law_k", 5)]) (N := N__law_fresh) (sc := defScope (top 50)) (by decide +kernel)) (fun _ _ _ _ _ => (pg_name (i := 5) sc__law_fresh.nd rfl (by first | exact Or.inl rfl | exact Or.inr rfl))) (fun _ _ _ _ _ => pts_nil) (fun _ _ _ _ _ => (pe_ix (k_ix (K := K) rfl (hu_of hr)) (pv 4) (pe_cal c__law_draw (hr.mono (by decide)) rfl pass0 (pa_cons (pv 0) (pa_cons pe_int pa_nil))) (fun _ _ => rfl))))))
      (pss_cons (ps_set (i := 3) sc__law_fresh.nd rfl (by first | exact Or.inl rfl | exact Or.inr rfl) (pe_ifExp (pt_cmpR (k_eq (K := K) rfl hr.units) (pe_cal c__law_draw (hr.mono (by decide)) rfl pass0 (pa_cons (pv 0) (pa_cons pe_int pa_nil))) pe_int (nomark _)) (pe_ix (k_ix (K := K) rfl (hu_of hr)) (pv 2) (pe_cal c__law_draw (hr.mono (by decide)) rfl pass0 (pa_cons (pv 0) (pa_cons pe_int pa_nil))) (fun _ _ => rfl)) (pv 3)))
      (pss_cons (ps_if (PW.pt (pw_or (pt_cmpR (k_in (K := K) rfl (hu_of hr)) (pv 3) (pv 1) (by rfl)) (pw_or1 (pt_cmpR (k_eq (K := K) rfl hr.units) (pv 3) pe_str (nomark _))))) (pss_one (ps_ret (pe_ix (k_ix (K := K) rfl (hu_of hr)) (pe_lc (own := [("_law_one", 6)]) rfl sc__law_fresh.nd (k_any (K := K) rfl (pe_lc (own := [("_law_sign", 7)]) rfl sc__law_fresh.nd (k_any (K := K) rfl (pv 4)) (blkOk_by (own := [("_law_sign", 7)]) (N := N__law_fresh) (sc := defScope (top 50)) (by decide +kernel)) (fun _ _ _ _ _ => (pg_name (i := 7) sc__law_fresh.nd rfl (by first | exact Or.inl rfl | exact Or.inr rfl))) (fun _ _ _ _ _ => pts_nil) (fun _ _ _ _ _ => (pe_op op_addA pe_str (pv 7))))) (blkOk_by (own := [("_law_one", 6)]) (N := N__law_fresh) (sc := defScope (top 50)) (by decide +kernel)) (fun _ _ _ _ _ => (pg_name (i := 6) sc__law_fresh.nd rfl (by first | exact Or.inl rfl | exact Or.inr rfl))) (fun _ _ _ _ _ => (pts_one (pt_cmpR (k_nin (K := K) rfl (hu_of hr)) (pv 6) (pv 1) (by rfl)))) (fun _ _ _ _ _ => (pv 6))) pe_int (fun _ _ => rfl)))) pss_nil)
      (pss_one (ps_ret (pe_frz (pv 3))))))))), ?_⟩
  rintro ds g Q ⟨⟨sA, sB, t, s, k, ns⟩, ⟨rfl, rfl, ne, hs, hk, hl⟩, hQ⟩
  replace ne : sA ≠ sB := ne
  replace hs : StOk k s := hs
  replace hk : k < 900000 := hk
  replace hl : ns.length ≤ 20 := hl
  replace hQ : ∀ nm s', isName nm = true → nm.length ≤ 8 → nm ∉ ns → StOk (k + 12) s' → Q (dS nm) (strG sA sB s' ++ [(t, .lst (ns.map dS))]) := fun nm s' a b c d => hQ _ _ ⟨nm, s', rfl, a, b, c, rfl, d⟩
  dsimp only
  walk_at "auto"
  refine ye_lst ?_
  walk_at "auto"
  refine ye_lst ?_
  walk_at "auto"
  refine addA_L (.im _) (.im _) (by decide) ?_
  walk_at "auto"
  refine ye_lc (yi_range1 ?_)
  walk_at "auto"
  refine ye_draw (gr := [(t, .lst (ns.map dS))]) ne hs (by omega) ?_
  walk_at "auto"
  refine ⟨rfl, by decide, by decide, fun r s1' h0 h1 ok1 => ?_⟩
  walk_at "auto"
  refine ⟨(1 + r).toNat, by rw [Int.toNat_of_nonneg (by omega)], by omega, fun i acc gg => ∃ s' ls, gg = strG sA sB s' ++ [(t, .lst (ns.map dS))] ∧ StOk (k + 1 + i) s' ∧ acc = ls.map (fun c => dS (s1 c)) ∧ ls.length = i ∧ (∀ c ∈ ls, c ∈ letters.cps.toList), ⟨s1', [], rfl, ok1, rfl, rfl, by simp⟩, fun _ _ _ _ c hc => by simp at hc, ?_, ?_⟩
  · rintro i d acc gg hd ⟨s', ls, rfl, ok, rfl, hlen, hc⟩
    obtain ⟨j, hj, rfl⟩ := map_get hd
    have hi : i < (1 + r).toNat := by
      have := (List.getElem?_eq_some_iff.mp hj).1
      simpa using this
    refine wgc_name (by simp) ?_
    walk_at "auto"
    refine ye_draw (gr := [(t, .lst (ns.map dS))]) ne ok (by omega) ?_
    walk_at "auto"
    refine ⟨rfl, by decide, by decide, fun r2 s2 h20 h21 ok2 => ?_⟩
    obtain ⟨q, rfl⟩ := Int.eq_ofNat_of_zero_le h20
    have hq : q < letters.cps.size := by rw [letters_size]; omega
    refine ixA_str (z := letters) (c := letters.cps[q]) (by decide +kernel) (by simp [hq]) ?_
    refine ⟨by rw [List.length_map]; omega, s2, ls ++ [letters.cps[q]], rfl, ok2, by simp, by simp [hlen], fun c h => ?_⟩
    rcases List.mem_append.mp h with h | h
    · exact hc c h
    · simp only [List.mem_cons, List.not_mem_nil, or_false] at h
      subst h
      exact List.getElem_mem (by simpa using hq)
  · rintro acc gg ⟨s', ls, rfl, ok, rfl, hlen, hc⟩
    rw [List.length_map, List.length_range] at hlen ok
    refine rm_join (ss := ls.map s1) (.l _ _ (.im _)) (by rw [List.map_map]; rfl) (by rw [sum_ones]; show ls.length + _ * 0 ≤ _; omega) ?_
    rw [join_ones]
    have hnm : ((⟨ls.toArray⟩ : Str) ≠ "strike" → isName ⟨ls.toArray⟩ = true) := fun h => isName_ones (by omega) (by omega) hc h
    have hnl : (⟨ls.toArray⟩ : Str).length ≤ 8 := by
      show ls.toArray.size ≤ 8
      simp; omega
    generalize (⟨ls.toArray⟩ : Str) = nm0 at hnm hnl ⊢
    show WS (tSeq _ _) _ _ _
    refine ws_via (fun e gg => ∃ nm s', e = [some (.v (.ref sA)), some (.v (.ref t)), some (.lst (wordsL.map dS)), some (dS nm), some (dS letters), none, none, none] ∧ gg = strG sA sB s' ++ [(t, .lst (ns.map dS))] ∧ StOk (k + 11) s' ∧ (nm ≠ "strike" → isName nm = true) ∧ nm.length ≤ 8) ?_ ?_
    · walk_at "auto"
      refine ye_draw (gr := [(t, .lst (ns.map dS))]) ne ok (by omega) ?_
      walk_at "auto"
      refine ⟨rfl, by decide, by decide, fun r3 s3 h30 h31 ok3 => ?_⟩
      walk_at "auto"
      · refine ye_draw (gr := [(t, .lst (ns.map dS))]) ne ok3 (by omega) ?_
        walk_at "auto"
        refine ⟨rfl, by decide, by decide, fun r4 s4 h40 h41 ok4 => ?_⟩
        obtain ⟨d4, hd4, e4⟩ := atI_of (xs := wordsL.map dS) (r := r4) h40 (by rw [List.length_map]; exact h41)
        obtain ⟨w4, hw4, rfl⟩ := List.mem_map.mp hd4
        refine ixA_L (xs := wordsL.map dS) (.l _ _ (.im _)) e4 ?_
        exact ⟨w4, s4, rfl, rfl, ok4.le (by omega), fun _ => (words_name w4 hw4).1, (words_name w4 hw4).2⟩
      · exact ⟨nm0, s3, rfl, rfl, ok3.le (by omega), hnm, hnl⟩
    · rintro e gg ⟨nm, s5, rfl, rfl, ok5, hn5, hl5⟩
      walk_at "auto"
      refine inA_L (neg := false) (.l _ _ (.mu t _ mem_last)) rfl ?_
      by_cases hin : nm ∈ ns
      · rw [if_neg (by decide), decide_eq_true hin]
        walk_at "auto"
        refine lc_fn (α := Str) (fun w => !decide (w ∈ ns)) dS (yi_any ?_)
        walk_at "auto"
        refine lc_map (α := Nat) (fun c => dS ("q" ++ s1 c)) (yi_any ?_)
        walk_at "auto"
        refine ⟨_, _, .str _, fun c hc => by simp at hc, letters.cps.toList, _, rfl, by decide +kernel, fun c hc => wgc_name (by simp) ?_, ?_⟩
        · walk_at "auto"
          refine addA_S (by show 1 + 1 ≤ 1000000; decide) ?_
          exact ⟨rfl, rfl⟩
        walk_at "auto"
        refine ⟨_, _, .lst _, fun c hc => by simp at hc, qNames, dS, by unfold qNames; rw [List.map_map]; rfl, by rw [q_len]; decide, fun w hw => wgc_name (by simp) ?_, ?_⟩
        · walk_at "auto"
          refine inA_L (neg := true) (.l _ _ (.mu t _ mem_last)) rfl ?_
          walk_at "auto"
          refine ⟨rfl, fun _ => ?_, fun _ => rfl⟩
          walk_at "auto"
          exact ⟨rfl, rfl⟩
        walk_at "auto"
        obtain ⟨w, hw, hq, hn⟩ := q_left (ns := ns) (by omega)
        refine ixA_L (d := dS w) (.l _ _ (.im _)) (head_atI (by rw [List.head?_map, hw]; rfl)) ?_
        exact hQ w s5 (q_name w hq).1 (q_name w hq).2 hn (ok5.le (by omega))
      · rw [if_neg (by decide), decide_eq_false hin]
        walk_at "auto"
        · refine lc_fn (α := Str) (fun w => !decide (w ∈ ns)) dS (yi_any ?_)
          walk_at "auto"
          refine lc_map (α := Nat) (fun c => dS ("q" ++ s1 c)) (yi_any ?_)
          walk_at "auto"
          refine ⟨_, _, .str _, fun c hc => by simp at hc, letters.cps.toList, _, rfl, by decide +kernel, fun c hc => wgc_name (by simp) ?_, ?_⟩
          · walk_at "auto"
            refine addA_S (by show 1 + 1 ≤ 1000000; decide) ?_
            exact ⟨rfl, rfl⟩
          walk_at "auto"
          refine ⟨_, _, .lst _, fun c hc => by simp at hc, qNames, dS, by unfold qNames; rw [List.map_map]; rfl, by rw [q_len]; decide, fun w hw => wgc_name (by simp) ?_, ?_⟩
          · walk_at "auto"
            refine inA_L (neg := true) (.l _ _ (.mu t _ mem_last)) rfl ?_
            walk_at "auto"
            refine ⟨rfl, fun _ => ?_, fun _ => rfl⟩
            walk_at "auto"
            exact ⟨rfl, rfl⟩
          walk_at "auto"
          obtain ⟨w, hw, hq, hn⟩ := q_left (ns := ns) (by omega)
          refine ixA_L (d := dS w) (.l _ _ (.im _)) (head_atI (by rw [List.head?_map, hw]; rfl)) ?_
          exact hQ w s5 (q_name w hq).1 (q_name w hq).2 hn (ok5.le (by omega))
        · rename_i hst
          refine ye_nofrz ?_
          walk_at "auto"
          have hst2 : nm ≠ "strike" := by simpa using hst
          exact hQ nm s5 (hn5 hst2) hl5 hin (ok5.le (by omega))
def R_names : RS := ndR (α := Addr × Addr × Strm × Nat × Nat) (fun x ds g => ds = [.v (.ref x.1), dI x.2.2.2.2] ∧ g = strG x.1 x.2.1 x.2.2.1 ∧ x.1 ≠ x.2.1 ∧ StOk x.2.2.2.1 x.2.2.1 ∧ x.2.2.2.1 < 800000 ∧ x.2.2.2.2 ≤ 20)
  (fun x d g' => ∃ ns s', d = .lst (ns.map dS) ∧ WfNames ns ∧ ns.length = x.2.2.2.2 ∧ g' = strG x.1 x.2.1 s' ∧ StOk (x.2.2.2.1 + 12 * x.2.2.2.2) s')
theorem WfNames.snoc {ns : List Str} {n : Str} (w : WfNames ns) (h1 : isName n = true) (h2 : n.length ≤ 8) (h3 : n ∉ ns) (h4 : ns.length < 100) : WfNames (ns ++ [n]) := by
  refine ⟨List.nodup_append.mpr ⟨w.nd, by simp, fun a ha b hb e => ?_⟩, fun m hm => ?_, fun m hm => ?_, by simp; omega⟩
  · simp at hb; subst hb; exact h3 (e ▸ ha)
  · rcases List.mem_append.mp hm with hm | hm
    · exact w.ok m hm
    · simp at hm; subst hm; exact h1
  · rcases List.mem_append.mp hm with hm | hm
    · exact w.len m hm
    · simp at hm; subst hm; exact h2
abbrev N__law_names : List Str := ["_law_stream", "_law_many", "_law_found", "_law_k"]
theorem sc__law_names : FnScope N__law_names ["_law_stream", "_law_many"] (defScope (top 51)) := ⟨rfl, rfl, rfl, by decide +kernel, rfl, by decide +kernel, by decide +kernel⟩
theorem ok__law_names {f : Addr} {fd : FuncData} (T : Txt K mg) (c__law_fresh : Cal P w K mg base CX0 2 "_law_fresh" ["_law_stream", "_law_taken"] (spR R_fresh)) (F : FunD K "_law_names" "_law_names" (defArgs (top 51)) (defBody (top 51)) (defScope (top 51)) [] [] f fd) : FnOk P w K mg base CX0 3 f fd ["_law_stream", "_law_many"] (spR R_names) := by
  refine okW F sc__law_names (by rintro ds g Q ⟨x, ⟨rfl, _⟩, _⟩; rfl) fun cdv A outer s H E hr => ⟨_, PSs.nox (pss_cons (ps_set (i := 2) sc__law_names.nd rfl (by first | exact Or.inl rfl | exact Or.inr rfl) (pe_lst pa_nil))
      (pss_cons (ps_for PassesOwn.never rfl (pi_range1 (by rfl) T.f_range (pa_cons (pv 1) pa_nil)) (pg_name (i := 3) sc__law_names.nd rfl (by first | exact Or.inl rfl | exact Or.inr rfl)) (pss_one (ps_expr (k_bm (K := K) rfl PySem.F.plainAttrs_list PySem.F.slot_list_append PySem.F.type_list_append mt_append (pv 2) (pa_cons (pe_cal c__law_fresh (hr.mono (by decide)) rfl pass0 (pa_cons (pv 0) (pa_cons (pv 2) pa_nil))) pa_nil)))))
      (pss_one (ps_ret (pe_frz (pv 2)))))), ?_⟩
  rintro ds g Q ⟨⟨sA, sB, s, k, n⟩, ⟨rfl, rfl, ne, hs, hk, hl⟩, hQ⟩
  replace ne : sA ≠ sB := ne
  replace hs : StOk k s := hs
  replace hk : k < 800000 := hk
  replace hl : n ≤ 20 := hl
  replace hQ : ∀ ns s', WfNames ns → ns.length = n → StOk (k + 12 * n) s' → Q (.lst (ns.map dS)) (strG sA sB s') := fun ns s' a b c => hQ _ _ ⟨ns, s', rfl, a, b, rfl, c⟩
  dsimp only
  walk_at "auto"
  refine ye_lstM ?_
  walk_at "auto"
  intro t ht
  walk_at "auto"
  refine ws_for (yi_range1 ?_)
  walk_at "auto"
  refine ⟨by omega, fun i e gg => ∃ ns s' x3, e = [some (.v (.ref sA)), some (dI n), some (.v (.ref t)), x3] ∧ gg = strG sA sB s' ++ [(t, .lst (ns.map dS))] ∧ WfNames ns ∧ ns.length = i ∧ StOk (k + 12 * i) s', ⟨[], s, none, rfl, rfl, ⟨by simp, by simp, by simp, by simp⟩, rfl, hs⟩, fun _ _ _ _ c hc => by simp at hc, ?_, ?_⟩
  · rintro i d e gg hd ⟨ns, s', x3, rfl, rfl, wf, hlen, ok⟩
    obtain ⟨j, hj, rfl⟩ := map_get hd
    have hi : i < n := by
      have := (List.getElem?_eq_some_iff.mp hj).1
      simpa using this
    walk_at "auto"
    refine ⟨ty_list (.mu t _ mem_last), ?_⟩
    walk_at "auto"
    refine ye_call ?_
    walk_at "auto"
    refine ⟨_, [], (List.append_nil _).symm, ⟨(sA, sB, t, s', k + 12 * i, ns), ⟨rfl, rfl, ne, ok, by show k + 12 * i < 900000; omega, by show ns.length ≤ 20; omega⟩, ?_⟩⟩
    rintro d g' ⟨nm, s2, rfl, hn1, hn2, hn3, rfl, ok2⟩
    rw [List.append_nil]
    walk_at "auto"
    refine rm_append mem_last (by rw [List.length_map]; show ns.length < _; omega) ?_
    rw [setG_last (notin_strG ht)]
    exact ⟨ns ++ [nm], s2, _, rfl, by rw [List.map_append]; rfl, wf.snoc hn1 hn2 hn3 (by omega), by simp [hlen], ok2.le (by show k + 12 * i + 12 ≤ _; omega)⟩
  · rintro e gg ⟨ns, s', x3, rfl, rfl, wf, hlen, ok⟩
    rw [List.length_map, List.length_range] at hlen ok
    walk_at "auto"
    refine ye_frzL ?_
    walk_at "auto"
    exact ⟨t, _, _, rfl, rfl, hQ ns s' wf hlen ok⟩
end
end Ls
set_option Elab.async false
set_option linter.all false
set_option maxRecDepth 100000
set_option maxHeartbeats 4000000
set_option autoImplicit false
namespace Ls
open PySem PySem.Spec PyProof.Rows L2 Dl
local macro_rules | `(tactic| walk_at "nof") => `(tactic| first
  | with_reducible exact Txt.n_Column_word (by assumption)
  | with_reducible exact Txt.n_Column_home (by assumption)
  | with_reducible exact Txt.n_Column_goal (by assumption)
  | with_reducible exact Txt.n_Column_rule (by assumption)
  | with_reducible exact Txt.n_Book_open_kinds (by assumption)
  | with_reducible exact Txt.n_Book_column_rows (by assumption)
  | with_reducible exact Txt.n_Book_column_table (by assumption)
  | with_reducible exact Txt.n_Book_all_checks (by assumption)
  | with_reducible exact Txt.n_Book_own_checks (by assumption)
  | with_reducible exact Txt.n_Watch_law_book (by assumption)
  | with_reducible exact Txt.n_Watch_home (by assumption)
  | with_reducible exact Txt.n_Watch_can_mark (by assumption)
  | with_reducible exact Txt.n_Watch_sorts (by assumption)
  | with_reducible exact Txt.n_KindWatch_law_book (by assumption)
  | with_reducible exact Txt.n_KindWatch_home (by assumption)
  | with_reducible exact Txt.n_KindWatch_can_mark (by assumption)
  | with_reducible exact Txt.n_KindWatch_sorts (by assumption)
  | with_reducible exact Txt.n_ColumnWatch_law_book (by assumption)
  | with_reducible exact Txt.n_ColumnWatch_home (by assumption)
  | with_reducible exact Txt.n_ColumnWatch_can_mark (by assumption)
  | with_reducible exact Txt.n_ColumnWatch_sorts (by assumption)
  | with_reducible exact Txt.n_ColumnWatch_by (by assumption)
  | with_reducible exact Txt.n_ColumnWatch_goal (by assumption)
  | with_reducible exact Txt.n_ColumnWatch_other_column (by assumption)
  | with_reducible exact Txt.n_Weaver_watch (by assumption)
  | with_reducible exact Txt.n_Weaver_way (by assumption)
  | with_reducible exact Txt.n_Weaver_made (by assumption)
  | with_reducible exact Txt.n_Weaver_held (by assumption)
  | with_reducible exact Txt.n_Weaver_chains (by assumption)
  | with_reducible exact Txt.n_Weaver_unused (by assumption))
local macro_rules | `(tactic| walk_at "cls") => `(tactic| first
  | with_reducible exact Txt.cl_Column (by assumption)
  | with_reducible exact Txt.cl_Book (by assumption)
  | with_reducible exact Txt.cl_Watch (by assumption)
  | with_reducible exact Txt.cl_KindWatch (by assumption)
  | with_reducible exact Txt.cl_ColumnWatch (by assumption)
  | with_reducible exact Txt.cl_Weaver (by assumption))
local macro_rules | `(tactic| walk_at "dlf") => `(tactic| first
  | with_reducible exact dlf_Column_word ..
  | with_reducible exact dlf_Column_home ..
  | with_reducible exact dlf_Column_goal ..
  | with_reducible exact dlf_Column_rule ..
  | with_reducible exact dlf_Book_open_kinds ..
  | with_reducible exact dlf_Book_column_rows ..
  | with_reducible exact dlf_Book_column_table ..
  | with_reducible exact dlf_Book_all_checks ..
  | with_reducible exact dlf_Book_own_checks ..
  | with_reducible exact dlf_Watch_law_book ..
  | with_reducible exact dlf_Watch_home ..
  | with_reducible exact dlf_Watch_can_mark ..
  | with_reducible exact dlf_Watch_sorts ..
  | with_reducible exact dlf_KindWatch_law_book ..
  | with_reducible exact dlf_KindWatch_home ..
  | with_reducible exact dlf_KindWatch_can_mark ..
  | with_reducible exact dlf_KindWatch_sorts ..
  | with_reducible exact dlf_ColumnWatch_law_book ..
  | with_reducible exact dlf_ColumnWatch_home ..
  | with_reducible exact dlf_ColumnWatch_can_mark ..
  | with_reducible exact dlf_ColumnWatch_sorts ..
  | with_reducible exact dlf_ColumnWatch_by ..
  | with_reducible exact dlf_ColumnWatch_goal ..
  | with_reducible exact dlf_ColumnWatch_other_column ..
  | with_reducible exact dlf_Weaver_watch ..
  | with_reducible exact dlf_Weaver_way ..
  | with_reducible exact dlf_Weaver_made ..
  | with_reducible exact dlf_Weaver_held ..
  | with_reducible exact dlf_Weaver_chains ..
  | with_reducible exact dlf_Weaver_unused ..)
local macro_rules | `(tactic| walk_at "len") => `(tactic| first | decide | (simp; done) | omega | (simp; omega) | (simp only [PySem.Str.length_append, sizeLine_eq, len_empty, len_space]; omega))
local macro_rules | `(tactic| walk_at "go1") => `(tactic| first
  | with_reducible refine ws_seq ?_
  | with_reducible refine ws_set ?_
  | with_reducible refine ws_ret ?_
  | with_reducible refine ws_if ?_
  | with_reducible refine ws_drop ?_
  | with_reducible refine ws_next ?_
  | with_reducible refine ws_retN ?_
  | with_reducible refine ws_cont ?_
  | with_reducible refine ws_brk ?_
  | with_reducible refine ws_asg ?_
  | with_reducible refine ye_var (by with_unfolding_all rfl) ?_
  | with_reducible refine ye_c ?_
  | with_reducible refine ye_op ?_
  | with_reducible refine ye_cb ?_
  | with_reducible refine ye_bm ?_
  | with_reducible refine ye_m1 ?_
  | with_reducible refine ye_if ?_
  | with_reducible refine ye_andV ?_
  | with_reducible refine ye_orV ?_
  | with_reducible refine ye_notV ?_
  | with_reducible refine ye_join ?_
  | with_reducible refine ye_fmt ?_
  | with_reducible refine ye_fld ?_
  | with_reducible refine ye_items ?_
  | with_reducible refine ye_sl ?_
  | with_reducible refine ye_tup ?_
  | with_reducible refine yo_none ?_
  | with_reducible refine yo_some ?_
  | with_reducible refine yt_B ?_
  | with_reducible refine yt_test ?_
  | with_reducible refine yt_and ?_
  | with_reducible refine yt_or ?_
  | with_reducible refine yt_not ?_
  | with_reducible refine yt_yes ?_
  | with_reducible refine ya_nil ?_
  | with_reducible refine ya_cons ?_
  | with_reducible refine ya_starA ?_
  | with_reducible refine yj_nil ?_
  | with_reducible refine yj_cons ?_
  | with_reducible refine wg_name ?_
  | with_reducible refine eqA_S ?_
  | with_reducible refine neA_S ?_
  | with_reducible refine eqA_I ?_
  | with_reducible refine neA_I ?_
  | with_reducible refine addA_I ?_
  | with_reducible refine rd_I0 ?_
  | with_reducible refine isi_SS ?_
  | with_reducible refine rc_strS ?_
  | with_reducible refine rd_isN ?_
  | with_reducible refine rd_notN ?_
  | with_reducible refine chain_I ?_
  | with_reducible refine rc_lenS (by walk_at "len") ?_
  | with_reducible refine inA_S ?_
  | with_reducible refine ws_fld1 (by with_unfolding_all rfl) (by walk_at "cls") (by walk_at "nof") (by decide +kernel) (by decide +kernel) ?_
  | with_reducible refine ⟨_, _, _, _, OV.im _ _ _, by walk_at "cls", by walk_at "nof", by walk_at "dlf", ?_⟩
  | with_reducible refine ⟨_, _, _, _, OV.mu _ _ _ _ (List.mem_singleton.mpr rfl), by walk_at "cls", by walk_at "nof", by with_unfolding_all rfl, ?_⟩
  | with_reducible refine ⟨(rfl : ([_] : G) = _), ?_⟩
  | with_reducible refine ⟨_, _, _, rfl, rfl, rfl, ?_⟩
  | refine iteT ?_
  | refine iteF ?_
  | with_reducible refine ⟨_, rfl, ?_⟩
  | with_reducible refine ⟨(by walk_at "len" : List.length _ ≤ _), ?_⟩
  | with_reducible refine ⟨(by walk_at "len" : PySem.Str.length _ ≤ _), ?_⟩)
local macro_rules | `(tactic| walk_at "go") => `(tactic| repeat walk_at "go1")
local macro_rules | `(tactic| walk_at "end") => `(tactic| first | rfl | exact ⟨rfl, rfl⟩ | exact ⟨_, rfl, rfl⟩ | exact ⟨_, _, rfl, rfl⟩)
local macro_rules | `(tactic| walk_at "auto1") => `(tactic| first | walk_at "go1" | walk_at "own" | refine iteT' (by decide +kernel) ?_ | refine iteF' (by decide +kernel) ?_ | refine iteB (fun h => ?_) (fun h => ?_))
local macro_rules | `(tactic| walk_at "auto") => `(tactic| repeat' walk_at "auto1")
local macro_rules | `(tactic| walk_at "own") => `(tactic| first
  | with_reducible refine rd_bookF ?_
  | with_reducible refine rd_bookT ?_
  | with_reducible refine ⟨_, _, OV.im _ _ _, by decide +kernel, ?_⟩
  | with_reducible refine ixA_L (.t _) (by with_unfolding_all rfl) ?_
  | with_reducible refine ixA_L (.r _ _ _) (by with_unfolding_all rfl) ?_
  | with_reducible refine wg_tupN (by repeat constructor) ⟨_, rfl, rfl, rfl, ?_⟩
  | with_reducible refine ye_lackC ?_
  | with_reducible refine inA_b2F ?_
  | with_reducible refine inA_b2T ?_
  | with_reducible refine inA_SF ?_
  | with_reducible refine inA_ST ?_
  | with_reducible refine inA_hereF (by assumption) ?_
  | with_reducible refine inA_hereT (by assumption) ?_
  | with_reducible refine ye_disp ?_
  | with_reducible refine yp_cons ?_
  | with_reducible refine yp_nil ?_
  | with_reducible refine ya_star ?_
  | refine ye_lack (by with_unfolding_all rfl) (by show 1 ≠ 0; decide) ?_
  | refine ye_methQ ?_)
section
variable {P : Program} {w : World} {K : PySem.W.Frag} {mg : Str → Option Value} {base : Heap}
theorem cut_nn {ws : List Str} {m h : Nat} (hm : m ≤ ws.length) : Dl.cutD (ws.map dS) (some (m : Int)) (some (h : Int)) = ((ws.drop m).take (h - m)).map dS := by
  unfold Dl.cutD
  rw [List.length_map, HT.sIx_nat, HT.sIx_nat, Nat.min_eq_left hm, ← List.map_drop, ← List.map_take]
  congr 1
  by_cases hh : h ≤ ws.length
  · rw [Nat.min_eq_left hh]
  · rw [Nat.min_eq_right (by omega), List.take_of_length_le (by rw [List.length_drop]; omega), List.take_of_length_le (by rw [List.length_drop]; omega)]
theorem cut_to {ws : List Str} {m : Nat} : Dl.cutD (ws.map dS) none (some (m : Int)) = (ws.take m).map dS := by
  unfold Dl.cutD
  rw [List.length_map, HT.sIx_nat, HT.sIx_none, List.drop_zero, Nat.sub_zero, ← List.map_take]
  congr 1
  by_cases hh : m ≤ ws.length
  · rw [Nat.min_eq_left hh]
  · rw [Nat.min_eq_right (by omega), List.take_of_length_le (Nat.le_refl _), List.take_of_length_le (by omega)]
/-- the law's own book -/
abbrev lawKeys : List Key := [.inr "kinds", .inr "columns", .inr "checks"]
def dLB (kk : List (Str × Bool)) (cc : List Col) (ch : List Str) : D := .dic lawKeys [dKinds kk, .lst (cc.map dRow), .lst (ch.map dS)]
theorem ye_pick {tr : TA} {X : XK} {env : DEnv} {g : G} {Ψ : D → G → Prop} {sA sB : Addr} {s : Strm} {k : Nat} {gr : G} (ne : sA ≠ sB) (hs : StOk k s) (hk : k < 1000000)
    (h : YA tr env g fun ds g1 => ∃ ws : List Str, ds = [.v (.ref sA), .lst (ws.map dS)] ∧ g1 = strG sA sB s ++ gr ∧ ws ≠ [] ∧ ws.length < 1000000 ∧ ∀ w ∈ ws, ∀ s', StOk (k + 1) s' → Ψ (dS w) (strG sA sB s' ++ gr)) : YE (tCall (spR R_pick) [] X tr) env g Ψ :=
  ye_call fun M σ H s0 Q q => h M σ H s0 Q fun ds g1 vs H1 ⟨ws, e1, e2, m1, m2, hq⟩ t c r => q ds g1 vs H1 ⟨strG sA sB s, gr, e2, ⟨(sA, sB, s, k, ws.map dS), ⟨e1, rfl, ne, hs, hk, by simpa using m1, by simpa using m2⟩, fun d g' ⟨s', hd, e4, ok⟩ => by
    obtain ⟨w, hw, rfl⟩ := List.mem_map.mp hd
    subst e4; exact hq w hw s' ok⟩⟩ t c r
theorem dlb_k {a b c : D} : dlk lawKeys [a, b, c] (Sum.inr "kinds") = some a := by unfold dlk; rw [if_pos rfl]
theorem dlb_c {a b c : D} : dlk lawKeys [a, b, c] (Sum.inr "columns") = some b := by unfold dlk; rw [if_neg (by decide +kernel)]; unfold dlk; rw [if_pos rfl]
theorem dlb_h {a b c : D} : dlk lawKeys [a, b, c] (Sum.inr "checks") = some c := by unfold dlk; rw [if_neg (by decide +kernel)]; unfold dlk; rw [if_neg (by decide +kernel)]; unfold dlk; rw [if_pos rfl]
theorem WfNames.sub {ws l : List Str} (w : WfNames ws) (h : l.Sublist ws) : WfNames l :=
  ⟨h.nodup w.nd, fun n hn => w.ok n (h.subset hn), fun n hn => w.len n (h.subset hn), Nat.le_trans h.length_le w.few⟩
theorem len_cols {cc : List Col} {cs : List Str} (h : cc.map (·.word) = cs) : cc.length = cs.length := by rw [← h, List.length_map]
def R_shape : RS := ndR (α := Addr × Addr × Strm × Nat × Nat × Nat) (fun x ds g => ds = [.v (.ref x.1), dI x.2.2.2.2.1, dI x.2.2.2.2.2] ∧ g = strG x.1 x.2.1 x.2.2.1 ∧ x.1 ≠ x.2.1 ∧ StOk x.2.2.2.1 x.2.2.1 ∧ x.2.2.2.1 < 700000 ∧ 1 ≤ x.2.2.2.2.1 ∧ x.2.2.2.2.1 ≤ 3 ∧ 1 ≤ x.2.2.2.2.2 ∧ x.2.2.2.2.2 ≤ 4)
  (fun x d g' => ∃ kk cc s', d = dLB kk cc [] ∧ WfB kk cc ∧ kk.length ≤ 3 ∧ 1 ≤ kk.length ∧ 1 ≤ cc.length ∧ cc.length ≤ 4 ∧ g' = strG x.1 x.2.1 s' ∧ StOk (x.2.2.2.1 + 200) s')
abbrev N__law_shape : List Str := ["_law_stream", "_law_many", "_law_most", "_law_name", "_law_kinds", "_law_words", "_law_columns", "_law_home", "_law_goal"]
theorem sc__law_shape : FnScope N__law_shape ["_law_stream", "_law_many", "_law_most"] (defScope (top 52)) := ⟨rfl, rfl, rfl, by decide +kernel, rfl, by decide +kernel, by decide +kernel⟩
theorem ok__law_shape {f : Addr} {fd : FuncData} (T : Txt K mg) (c__law_names : Cal P w K mg base CX0 3 "_law_names" ["_law_stream", "_law_many"] (spR R_names)) (c__law_pick : Cal P w K mg base CX0 2 "_law_pick" ["_law_stream", "_law_things"] (spR R_pick)) (c__law_draw : Cal P w K mg base CX0 1 "_law_draw" ["_law_stream", "_law_many"] (spR R_draw)) (F : FunD K "_law_shape" "_law_shape" (defArgs (top 52)) (defBody (top 52)) (defScope (top 52)) [] [] f fd) : FnOk P w K mg base CX0 4 f fd ["_law_stream", "_law_many", "_law_most"] (spR R_shape) := by
  refine okW F sc__law_shape (by rintro ds g Q ⟨x, ⟨rfl, _⟩, _⟩; rfl) fun cdv A outer s H E hr => ⟨_, PSs.nox (pss_cons (ps_par (i := 5) (j := 6) rfl sc__law_shape.nd rfl rfl (by decide) rfl rfl (pa_cons (pe_cal c__law_names (hr.mono (by decide)) rfl pass0 (pa_cons (pv 0) (pa_cons (pe_op op_addA (pv 1) (pv 2)) pa_nil))) (pa_cons (pe_lst pa_nil) pa_nil)) (by rfl))
      (pss_cons (ps_for PassesOwn.never rfl (k_any (K := K) rfl (pe_slice (k_sl (K := K) rfl) (pv 5) (po_some (pv 1)) (po_some (pe_op op_addA (pe_op op_addA (pv 1) pe_int) (pe_cal c__law_draw (hr.mono (by decide)) rfl pass0 (pa_cons (pv 0) (pa_cons (pv 2) pa_nil))))))) (pg_name (i := 3) sc__law_shape.nd rfl (by first | exact Or.inl rfl | exact Or.inr rfl)) (pss_cons (ps_par (i := 7) (j := 8) rfl sc__law_shape.nd rfl rfl (by decide) rfl rfl (pa_cons (pe_cal c__law_pick (hr.mono (by decide)) rfl pass0 (pa_cons (pv 0) (pa_cons (pe_slice (k_sl (K := K) rfl) (pv 5) po_none (po_some (pv 1))) pa_nil))) (pa_cons (pe_cal c__law_pick (hr.mono (by decide)) rfl pass0 (pa_cons (pv 0) (pa_cons (pe_slice (k_sl (K := K) rfl) (pv 5) po_none (po_some (pv 1))) pa_nil))) pa_nil)) (by rfl))
      (pss_one (ps_expr (k_bm (K := K) rfl PySem.F.plainAttrs_list PySem.F.slot_list_append PySem.F.type_list_append mt_append (pv 6) (pa_cons (pe_tup (pa_cons (pv 3) (pa_cons (pv 7) (pa_cons (pv 8) (pa_cons (pe_ix (k_ix (K := K) rfl (hu_of hr)) (pe_lst (pa_cons pe_str (pa_cons pe_str (pa_cons pe_str pa_nil)))) (pe_cal c__law_draw (hr.mono (by decide)) rfl pass0 (pa_cons (pv 0) (pa_cons pe_int pa_nil))) (fun _ _ => rfl)) pa_nil))))) pa_nil))))))
      (pss_cons (ps_setLc (i := 4) (own := [("_law_name", 3)]) rfl sc__law_shape.nd rfl rfl (sw_true rfl rfl rfl (by decide +kernel)) (k_any (K := K) rfl (pe_slice (k_sl (K := K) rfl) (pv 5) po_none (po_some (pv 1)))) (blkOk_by (own := [("_law_name", 3)]) (N := N__law_shape) (sc := defScope (top 52)) (by decide +kernel)) (fun _ _ _ _ _ => (pg_name (i := 3) sc__law_shape.nd rfl (by first | exact Or.inl rfl | exact Or.inr rfl))) (fun _ _ _ _ _ => pts_nil) (fun _ _ _ _ _ => (pe_tup (pa_cons (pv 3) (pa_cons (pe_cmpR op_gt (pe_cal c__law_draw (hr.mono (by decide)) rfl pass0 (pa_cons (pv 0) (pa_cons pe_int pa_nil))) pe_int (nomark _)) pa_nil)))))
      (pss_one (ps_ret (pe_frz (pe_disp (pps_cons pe_str (pv 4) (pps_cons pe_str (pv 6) (pps_cons pe_str (pe_lst pa_nil) pps_nil))) (by rfl) (by rfl) (fun z => by cases z) (by decide)))))))), ?_⟩
  rintro ds g Q ⟨⟨sA, sB, s, k, n, m⟩, ⟨rfl, rfl, ne, hs, hk, hn1, hn3, hm1, hm4⟩, hQ⟩
  replace ne : sA ≠ sB := ne
  replace hs : StOk k s := hs
  replace hk : k < 700000 := hk
  replace hn1 : 1 ≤ n := hn1
  replace hn3 : n ≤ 3 := hn3
  replace hm1 : 1 ≤ m := hm1
  replace hm4 : m ≤ 4 := hm4
  replace hQ : ∀ kk cc s', WfB kk cc → kk.length ≤ 3 → 1 ≤ kk.length → 1 ≤ cc.length → cc.length ≤ 4 → StOk (k + 200) s' → Q (dLB kk cc []) (strG sA sB s') := fun kk cc s' a b c d e f => hQ _ _ ⟨kk, cc, s', rfl, a, b, c, d, e, rfl, f⟩
  dsimp only
  refine ws_seq (ws_par ?_)
  walk_at "auto"
  refine ye_call ?_
  walk_at "auto"
  refine ⟨_, [], (List.append_nil _).symm, ⟨(sA, sB, s, k, n + m), ⟨rfl, rfl, ne, hs, by show k < 800000; omega, by show n + m ≤ 20; omega⟩, ?_⟩⟩
  rintro d g' ⟨ws, s1, rfl, wf, hwl, rfl, ok1⟩
  replace hwl : ws.length = n + m := hwl
  replace ok1 : StOk (k + 12 * (n + m)) s1 := ok1
  rw [List.append_nil]
  walk_at "auto"
  refine ye_lstM ?_
  walk_at "auto"
  intro t ht
  walk_at "auto"
  refine ⟨_, _, rfl, ?_⟩
  refine ws_seq (ws_for (yi_any ?_))
  walk_at "auto"
  refine ye_draw (gr := [(t, .lst [])]) ne ok1 (by omega) ?_
  walk_at "auto"
  refine ⟨rfl, by omega, by omega, fun r s2 h0 h1 ok2 => ?_⟩
  replace ht : t ∉ ks (strG sA sB s1) := ht
  obtain ⟨q, rfl⟩ := Int.eq_ofNat_of_zero_le h0
  walk_at "auto"
  rw [show ((n : Int) + 1 + (q : Int)) = ((n + 1 + q : Nat) : Int) by omega]
  refine ⟨_, .lst _ _ (.im _), ?_⟩
  rw [cut_nn (by omega)]
  have hcl : ((ws.drop n).take (n + 1 + q - n)).length = 1 + q := by rw [List.length_take, List.length_drop]; omega
  have htn : ws.take n ≠ [] := by
    intro z
    have := congrArg List.length z
    rw [List.length_take, List.length_nil] at this
    omega
  have htl : (ws.take n).length < 1000000 := by rw [List.length_take]; omega
  have hcs : (ws.drop n).take (n + 1 + q - n) = (ws.drop n).take (n + 1 + q - n) := rfl
  generalize hcse : (ws.drop n).take (n + 1 + q - n) = cs at hcl
  refine ⟨_, _, .lst _, fun i e gg => ∃ cc s' x3 x4 x7 x8, e = [some (.v (.ref sA)), some (dI n), some (dI m), x3, x4, some (.lst (ws.map dS)), some (.v (.ref t)), x7, x8] ∧ gg = strG sA sB s' ++ [(t, .lst (cc.map dRow))] ∧ StOk (k + 12 * (n + m) + 1 + 3 * i) s' ∧ cc.map (·.word) = cs.take i ∧ ∀ c ∈ cc, c.home ∈ ws.take n ∧ c.goal ∈ ws.take n, ⟨[], s2, none, none, none, none, rfl, rfl, ok2, by simp, by simp⟩, fun _ _ _ _ c hc => by simp at hc, ?_, ?_⟩
  · rintro i d e gg hd ⟨cc, s', x3, x4, x7, x8, rfl, rfl, ok, hw, hhg⟩
    obtain ⟨nm, hnm, rfl⟩ := map_get hd
    have hi : i < cs.length := (List.getElem?_eq_some_iff.mp hnm).1
    refine wg_name ?_
    refine ws_seq (ws_par ?_)
    walk_at "auto"
    refine ye_pick (gr := [(t, .lst (cc.map dRow))]) ne ok (by omega) ?_
    walk_at "auto"
    refine ⟨_, .lst _ _ (.im _), ?_⟩
    rw [cut_to]
    walk_at "auto"
    refine ⟨rfl, htn, htl, fun hm hh s3 ok3 => ?_⟩
    walk_at "auto"
    refine ye_pick (gr := [(t, .lst (cc.map dRow))]) ne ok3 (by omega) ?_
    walk_at "auto"
    refine ⟨_, .lst _ _ (.im _), ?_⟩
    rw [cut_to]
    walk_at "auto"
    refine ⟨rfl, htn, htl, fun gl hg s4 ok4 => ?_⟩
    walk_at "auto"
    refine ⟨_, _, rfl, ?_⟩
    walk_at "auto"
    refine ⟨ty_list (.mu t _ mem_last), ?_⟩
    walk_at "auto"
    refine ye_lst ?_
    walk_at "auto"
    refine ye_draw (gr := [(t, .lst (cc.map dRow))]) ne ok4 (by omega) ?_
    walk_at "auto"
    refine ⟨rfl, by decide, by decide, fun r5 s5 h50 h51 ok5 => ?_⟩
    have hrule : ∃ b : Bool, atI ([dS "fall", dS "fall", dS "clear"] : List D) r5 = some (dS (if b then "fall" else "clear")) := by
      obtain ⟨r5, rfl⟩ := Int.eq_ofNat_of_zero_le h50
      match r5, h51 with
      | 0, _ => exact ⟨true, rfl⟩
      | 1, _ => exact ⟨true, rfl⟩
      | 2, _ => exact ⟨false, rfl⟩
      | n + 3, h => omega
    obtain ⟨fl, hfl⟩ := hrule
    refine ixA_L (xs := [dS "fall", dS "fall", dS "clear"]) (.l _ _ (.im _)) hfl ?_
    walk_at "auto"
    have hcc := congrArg List.length hw
    rw [List.length_map, List.length_take] at hcc
    refine rm_append mem_last (by rw [List.length_map]; omega) ?_
    rw [setG_last (notin_strG ht)]
    refine ⟨cc ++ [⟨nm, hm, gl, fl⟩], s5, _, _, _, _, rfl, ?_, ok5.le (by omega), ?_, ?_⟩
    · rw [List.map_append]; rfl
    · rw [List.map_append, hw, take_succ' hnm]; rfl
    · intro c hc
      rcases List.mem_append.mp hc with hc | hc
      · exact hhg c hc
      · simp only [List.mem_cons, List.not_mem_nil, or_false] at hc
        subst hc
        exact ⟨hh, hg⟩
  · rintro e gg ⟨cc, s3, x3, x4, x7, x8, rfl, rfl, ok3, hw, hhg⟩
    rw [List.length_map, List.take_length] at hw
    rw [List.length_map] at ok3
    have hccl := len_cols hw
    refine ws_frzL (i := 6) rfl rfl ?_
    walk_at "auto"
    refine ye_lc (yi_any ?_)
    walk_at "auto"
    refine ⟨_, .lst _ _ (.im _), ?_⟩
    rw [cut_to]
    refine ⟨_, _, .lst _, fun i acc gg => ∃ (kk : List (Str × Bool)) (s' : Strm), gg = strG sA sB s' ∧ StOk (k + 160 + i) s' ∧ acc = kk.map (fun k => .tup [dS k.1, dB k.2]) ∧ kk.map (·.1) = (ws.take n).take i, ⟨[], s3, rfl, ok3.le (by omega), rfl, by simp⟩, fun _ _ _ _ c hc => by simp at hc, ?_, ?_⟩
    · rintro i d acc gg hd ⟨kk, s', rfl, ok, rfl, hkk⟩
      obtain ⟨nm, hnm, rfl⟩ := map_get hd
      have hi : i < (ws.take n).length := (List.getElem?_eq_some_iff.mp hnm).1
      rw [List.length_take] at hi
      have hkl := congrArg List.length hkk
      rw [List.length_map, List.length_take] at hkl
      refine wgc_name (by simp) ?_
      walk_at "auto"
      refine ye_draw (gr := []) ne ok (by omega) ?_
      walk_at "auto"
      refine ⟨by simp, by decide, by decide, fun r4 s4 h40 h41 ok4 => ?_⟩
      rw [List.append_nil]
      walk_at "auto"
      refine ⟨by rw [List.length_map]; omega, kk ++ [(nm, decide (0 < r4))], s4, rfl, ok4, by rw [List.map_append]; rfl, by rw [List.map_append, hkk, take_succ' hnm]; rfl⟩
    · rintro acc gg ⟨kk, s4, rfl, ok4, rfl, hkk⟩
      rw [List.length_map, List.take_length] at hkk
      have hkl := congrArg List.length hkk
      rw [List.length_map, List.length_take] at hkl
      rw [List.length_map, List.length_take] at ok4
      walk_at "auto"
      refine ye_lst ?_
      walk_at "auto"
      refine ⟨lawKeys, [dKinds kk, .lst (cc.map dRow), .lst []], rfl, by decide +kernel, rfl, by decide, ?_⟩
      have hwf : WfB kk cc := by
        refine ⟨?_, fun c hc => by rw [hkk]; exact (hhg c hc).1, fun c hc => by rw [hkk]; exact (hhg c hc).2⟩
        rw [hkk, hw, ← hcse, ← List.take_add]
        exact wf.sub (List.take_sublist _ _)
      exact hQ kk cc s4 hwf (by omega) (by omega) (by omega) (by omega) (ok4.le (by omega))
def lawMenu (kk : List (Str × Bool)) (cc : List Col) : List Str := menu (kk.map (·.1)) (cc.map (·.word))
def R_all_checks : RS := pureR (α := List (Str × Bool) × List Col × List Str) (fun x ds => ds = [dLB x.1 x.2.1 x.2.2] ∧ WfB x.1 x.2.1) (fun x => .lst ((lawMenu x.1 x.2.1).map dS))
abbrev N__law_all_checks : List Str := ["_law_b", "_law_found", "_law_column", "_law_kind", "_law_word"]
theorem sc__law_all_checks : FnScope N__law_all_checks ["_law_b"] (defScope (top 53)) := ⟨rfl, rfl, rfl, by decide +kernel, rfl, by decide +kernel, by decide +kernel⟩
theorem ok__law_all_checks {f : Addr} {fd : FuncData} (T : Txt K mg)  (F : FunD K "_law_all_checks" "_law_all_checks" (defArgs (top 53)) (defBody (top 53)) (defScope (top 53)) [] [] f fd) : FnOk P w K mg base CX0 1 f fd ["_law_b"] (spR R_all_checks) := by
  refine okW F sc__law_all_checks (by rintro ds g Q ⟨_, x, ⟨rfl, _⟩, _⟩; rfl) fun cdv A outer s H E hr => ⟨_, PSs.nox (pss_cons (ps_set (i := 1) sc__law_all_checks.nd rfl (by first | exact Or.inl rfl | exact Or.inr rfl) (pe_lst pa_nil))
      (pss_cons (ps_for PassesOwn.never rfl (k_any (K := K) rfl (pe_ix (k_ix (K := K) rfl (hu_of hr)) (pv 0) pe_str (fun _ _ => rfl))) (pg_name (i := 2) sc__law_all_checks.nd rfl (by first | exact Or.inl rfl | exact Or.inr rfl)) (pss_one (ps_expr (k_bm (K := K) rfl PySem.F.plainAttrs_list PySem.F.slot_list_extend PySem.F.type_list_extend mt_extend (pv 1) (pa_cons (pe_lc (own := [("_law_word", 4)]) rfl sc__law_all_checks.nd (k_any (K := K) rfl (pe_lst (pa_cons pe_str (pa_cons pe_str (pa_cons pe_str (pa_cons pe_str (pa_cons pe_str pa_nil))))))) (blkOk_by (own := [("_law_word", 4)]) (N := N__law_all_checks) (sc := defScope (top 53)) (by decide +kernel)) (fun _ _ _ _ _ => (pg_name (i := 4) sc__law_all_checks.nd rfl (by first | exact Or.inl rfl | exact Or.inr rfl))) (fun _ _ _ _ _ => pts_nil) (fun _ _ _ _ _ => (pe_op op_addA (pe_op op_addA (pv 4) pe_str) (pe_ix (k_ix (K := K) rfl (hu_of hr)) (pv 2) pe_int (fun _ _ => rfl))))) pa_nil)))))
      (pss_cons (ps_for PassesOwn.never rfl (k_any (K := K) rfl (pe_ix (k_ix (K := K) rfl (hu_of hr)) (pv 0) pe_str (fun _ _ => rfl))) (pg_name (i := 3) sc__law_all_checks.nd rfl (by first | exact Or.inl rfl | exact Or.inr rfl)) (pss_one (ps_expr (k_bm (K := K) rfl PySem.F.plainAttrs_list PySem.F.slot_list_extend PySem.F.type_list_extend mt_extend (pv 1) (pa_cons (pe_lc (own := [("_law_word", 4)]) rfl sc__law_all_checks.nd (k_any (K := K) rfl (pe_lst (pa_cons pe_str (pa_cons pe_str (pa_cons pe_str pa_nil))))) (blkOk_by (own := [("_law_word", 4)]) (N := N__law_all_checks) (sc := defScope (top 53)) (by decide +kernel)) (fun _ _ _ _ _ => (pg_name (i := 4) sc__law_all_checks.nd rfl (by first | exact Or.inl rfl | exact Or.inr rfl))) (fun _ _ _ _ _ => pts_nil) (fun _ _ _ _ _ => (pe_op op_addA (pe_op op_addA (pv 4) pe_str) (pe_ix (k_ix (K := K) rfl (hu_of hr)) (pv 3) pe_int (fun _ _ => rfl))))) pa_nil)))))
      (pss_one (ps_ret (pe_op op_addA (pv 1) (pe_lst (pa_cons pe_str (pa_cons pe_str pa_nil))))))))), ?_⟩
  rintro ds g Q ⟨rfl, ⟨kk, cc, ch⟩, ⟨rfl, wf⟩, hQ⟩
  replace wf : WfB kk cc := wf
  replace hQ : Q (.lst ((lawMenu kk cc).map dS)) [] := hQ
  have few := wf.names.few
  rw [List.length_append, List.length_map, List.length_map] at few
  dsimp only
  walk_at "auto"
  refine ye_lstM ?_
  walk_at "auto"
  intro a ha
  walk_at "auto"
  refine ws_for (yi_any ?_)
  walk_at "auto"
  refine ixA_D (.im _ _) dlb_c ?_
  refine ⟨_, _, .lst _, fun i e gg => ∃ x2 x3 x4, e = [some (dLB kk cc ch), some (.v (.ref a)), x2, x3, x4] ∧ gg = [(a, MO.lst (((((cc.map (·.word)).take i).map fun c => colSorts.map fun s => chk s c).flatten).map dS))], ⟨none, none, none, rfl, rfl⟩, fun _ _ _ _ c hc => by simp at hc, ?_, ?_⟩
  · rintro i d e gg hd ⟨x2, x3, x4, rfl, rfl⟩
    obtain ⟨c, hc, rfl⟩ := map_get hd
    have hcw : (cc.map (·.word))[i]? = some c.word := by rw [List.getElem?_map, hc]; rfl
    have hcl : c.word.length ≤ 8 := wf.names.len c.word (by simp only [List.mem_append]; exact .inr (List.mem_of_getElem? hcw))
    walk_at "auto"
    refine ⟨ty_list (.mu a _ (List.mem_singleton.mpr rfl)), ?_⟩
    walk_at "auto"
    refine lc_map (α := Str) (fun s => dS (chk s c.word)) (yi_any (ye_lst ?_))
    walk_at "auto"
    refine ⟨_, _, .lst _, fun c hc => by simp at hc, colSorts, dS, rfl, by decide, fun s hs => wgc_name (by simp) ?_, ?_⟩
    · have hsl : s.length ≤ 5 := (by decide +kernel : ∀ s ∈ colSorts, s.length ≤ 5) s hs
      walk_at "auto"
      refine addA_S (by rw [len_space]; omega) ?_
      walk_at "auto"
      refine addA_S (by rw [PySem.Str.length_append, len_space]; omega) ?_
      exact ⟨rfl, rfl⟩
    walk_at "auto"
    refine rm_extend (List.mem_singleton.mpr rfl) (.im _) ?_ ?_
    · have := flat_take (i := i) (xs := cc.map (·.word)) (f := fun c => colSorts.map fun s => chk s c) (n := 5) fun x hx => by simp [colSorts]
      rw [List.length_map, List.length_map]
      rw [List.length_map] at this
      have : colSorts.length = 5 := rfl
      omega
    refine ⟨_, _, _, rfl, ?_⟩
    show setG [(a, _)] a _ = _
    rw [setG_one, take_flat hcw, List.map_append, List.map_map]
    rfl
  · rintro e gg ⟨x2, x3, x4, rfl, rfl⟩
    rw [List.length_map, ← List.length_map (f := fun c : Col => c.word), List.take_length]
    generalize hC : ((cc.map (·.word)).map fun c => colSorts.map fun s => chk s c).flatten = CC
    have hCl : CC.length ≤ cc.length * 5 := by
      rw [← hC]
      have := flat_len (xs := cc.map (·.word)) (f := fun c => colSorts.map fun s => chk s c) (n := 5) fun x hx => by simp [colSorts]
      rwa [List.length_map] at this
    walk_at "auto"
    refine ws_for (yi_any ?_)
    walk_at "auto"
    refine ixA_D (.im _ _) dlb_k ?_
    refine ⟨_, _, .lst _, fun i e gg => ∃ x2 x3 x4, e = [some (dLB kk cc ch), some (.v (.ref a)), x2, x3, x4] ∧ gg = [(a, MO.lst ((CC ++ ((((kk.map (·.1)).take i).map fun c => kindSorts.map fun s => chk s c).flatten)).map dS))], ⟨_, _, _, rfl, by simp⟩, fun _ _ _ _ c hc => by simp at hc, ?_, ?_⟩
    · rintro i d e gg hd ⟨x2, x3, x4, rfl, rfl⟩
      obtain ⟨c, hc, rfl⟩ := map_get hd
      have hcw : (kk.map (·.1))[i]? = some c.1 := by rw [List.getElem?_map, hc]; rfl
      have hcl : c.1.length ≤ 8 := wf.names.len c.1 (by simp only [List.mem_append]; exact .inl (List.mem_of_getElem? hcw))
      walk_at "auto"
      refine ⟨ty_list (.mu a _ (List.mem_singleton.mpr rfl)), ?_⟩
      walk_at "auto"
      refine lc_map (α := Str) (fun s => dS (chk s c.1)) (yi_any (ye_lst ?_))
      walk_at "auto"
      refine ⟨_, _, .lst _, fun c hc => by simp at hc, kindSorts, dS, rfl, by decide, fun s hs => wgc_name (by simp) ?_, ?_⟩
      · have hsl : s.length ≤ 5 := (by decide +kernel : ∀ s ∈ kindSorts, s.length ≤ 5) s hs
        walk_at "auto"
        refine addA_S (by rw [len_space]; omega) ?_
        walk_at "auto"
        refine addA_S (by rw [PySem.Str.length_append, len_space]; omega) ?_
        exact ⟨rfl, rfl⟩
      walk_at "auto"
      refine rm_extend (List.mem_singleton.mpr rfl) (.im _) ?_ ?_
      · have := flat_take (i := i) (xs := kk.map (·.1)) (f := fun c => kindSorts.map fun s => chk s c) (n := 3) fun x hx => by simp [kindSorts]
        rw [List.length_map, List.length_map, List.length_append]
        rw [List.length_map] at this
        have : kindSorts.length = 3 := rfl
        omega
      refine ⟨_, _, _, rfl, ?_⟩
      show setG [(a, _)] a _ = _
      rw [setG_one, take_flat hcw, ← List.append_assoc, List.map_append (l₂ := List.map _ kindSorts), List.map_map]
      rfl
    · rintro e gg ⟨x2, x3, x4, rfl, rfl⟩
      rw [List.length_map, ← List.length_map (f := fun c : Str × Bool => c.1), List.take_length]
      generalize hK : ((kk.map (·.1)).map fun c => kindSorts.map fun s => chk s c).flatten = KK
      have hKl : KK.length ≤ kk.length * 3 := by
        rw [← hK]
        have := flat_len (xs := kk.map (·.1)) (f := fun c => kindSorts.map fun s => chk s c) (n := 3) fun x hx => by simp [kindSorts]
        rwa [List.length_map] at this
      refine ws_ret (ye_sub (ye_op ?_))
      walk_at "auto"
      refine ye_lst ?_
      walk_at "auto"
      refine addA_L (.mu a _ (List.mem_singleton.mpr rfl)) (.im _) (by simp only [List.length_append, List.length_map, List.length_cons, List.length_nil]; omega) ?_
      refine ⟨[], by simp, ?_⟩
      have e : D.lst ((lawMenu kk cc).map dS) = .lst (List.map dS (CC ++ KK) ++ [D.v (V.str "lone"), D.v (V.str "fresh")]) := by
        unfold lawMenu menu
        rw [hC, hK, List.map_append]; rfl
      rw [e] at hQ
      exact hQ
def R_checked : RS := ndR (α := Addr × Addr × Strm × Nat × List (Str × Bool) × List Col) (fun x ds g => ds = [.v (.ref x.1), dLB x.2.2.2.2.1 x.2.2.2.2.2 []] ∧ g = strG x.1 x.2.1 x.2.2.1 ∧ x.1 ≠ x.2.1 ∧ StOk x.2.2.2.1 x.2.2.1 ∧ x.2.2.2.1 < 700000 ∧ WfB x.2.2.2.2.1 x.2.2.2.2.2 ∧ x.2.2.2.2.1.length ≤ 3 ∧ x.2.2.2.2.2.length ≤ 4)
  (fun x d g' => ∃ ch s', d = dLB x.2.2.2.2.1 x.2.2.2.2.2 ch ∧ ch.Sublist (lawMenu x.2.2.2.2.1 x.2.2.2.2.2) ∧ g' = strG x.1 x.2.1 s' ∧ StOk (x.2.2.2.1 + 50) s')
theorem ints_at {xs : List Int} {r : Int} (h0 : 0 ≤ r) (h1 : r < xs.length) : ∃ v, atI (xs.map dI) r = some (dI v) := by
  obtain ⟨d, hd, e⟩ := atI_of (xs := xs.map dI) h0 (by rw [List.length_map]; exact h1)
  obtain ⟨v, _, rfl⟩ := List.mem_map.mp hd
  exact ⟨v, e⟩
abbrev N__law_checked : List Str := ["_law_stream", "_law_b", "_law_share", "_law_checks", "_law_check"]
theorem sc__law_checked : FnScope N__law_checked ["_law_stream", "_law_b"] (defScope (top 54)) := ⟨rfl, rfl, rfl, by decide +kernel, rfl, by decide +kernel, by decide +kernel⟩
theorem ok__law_checked {f : Addr} {fd : FuncData} (T : Txt K mg) (c__law_draw : Cal P w K mg base CX0 1 "_law_draw" ["_law_stream", "_law_many"] (spR R_draw)) (c__law_all_checks : Cal P w K mg base CX0 1 "_law_all_checks" ["_law_b"] (spR R_all_checks)) (F : FunD K "_law_checked" "_law_checked" (defArgs (top 54)) (defBody (top 54)) (defScope (top 54)) [] [] f fd) : FnOk P w K mg base CX0 2 f fd ["_law_stream", "_law_b"] (spR R_checked) := by
  refine okW F sc__law_checked (by rintro ds g Q ⟨x, ⟨rfl, _⟩, _⟩; rfl) fun cdv A outer s H E hr => ⟨_, PSs.nox (pss_cons (ps_set (i := 2) sc__law_checked.nd rfl (by first | exact Or.inl rfl | exact Or.inr rfl) (pe_ix (k_ix (K := K) rfl (hu_of hr)) (pe_lst (pa_cons pe_int (pa_cons pe_int (pa_cons pe_int (pa_cons pe_int (pa_cons pe_int (pa_cons pe_int pa_nil))))))) (pe_cal c__law_draw (hr.mono (by decide)) rfl pass0 (pa_cons (pv 0) (pa_cons pe_int pa_nil))) (fun _ _ => rfl)))
      (pss_cons (ps_setLc (i := 3) (own := [("_law_check", 4)]) rfl sc__law_checked.nd rfl rfl (sw_true rfl rfl rfl (by decide +kernel)) (k_any (K := K) rfl (pe_cal c__law_all_checks (hr.mono (by decide)) rfl pass0 (pa_cons (pv 1) pa_nil))) (blkOk_by (own := [("_law_check", 4)]) (N := N__law_checked) (sc := defScope (top 54)) (by decide +kernel)) (fun _ _ _ _ _ => (pg_name (i := 4) sc__law_checked.nd rfl (by first | exact Or.inl rfl | exact Or.inr rfl))) (fun _ _ _ _ _ => (pts_one (pt_cmpR op_lt (pe_cal c__law_draw (hr.mono (by decide)) rfl pass0 (pa_cons (pv 0) (pa_cons pe_int pa_nil))) (pv 2) (nomark _)))) (fun _ _ _ _ _ => (pv 4)))
      (pss_one (ps_ret (pe_frz (pe_disp (pps_cons pe_str (pe_ix (k_ix (K := K) rfl (hu_of hr)) (pv 1) pe_str (fun _ _ => rfl)) (pps_cons pe_str (pe_ix (k_ix (K := K) rfl (hu_of hr)) (pv 1) pe_str (fun _ _ => rfl)) (pps_cons pe_str (pv 3) pps_nil))) (by rfl) (by rfl) (fun z => by cases z) (by decide))))))), ?_⟩
  rintro ds g Q ⟨⟨sA, sB, s, k, kk, cc⟩, ⟨rfl, rfl, ne, hs, hk, wf, hk3, hc4⟩, hQ⟩
  replace ne : sA ≠ sB := ne
  replace hs : StOk k s := hs
  replace hk : k < 700000 := hk
  replace wf : WfB kk cc := wf
  replace hk3 : kk.length ≤ 3 := hk3
  replace hc4 : cc.length ≤ 4 := hc4
  replace hQ : ∀ ch s', ch.Sublist (lawMenu kk cc) → StOk (k + 50) s' → Q (dLB kk cc ch) (strG sA sB s') := fun ch s' a b => hQ _ _ ⟨ch, s', rfl, a, rfl, b⟩
  have hml : (lawMenu kk cc).length ≤ 31 := by
    unfold lawMenu
    rw [menu_len, List.length_map, List.length_map]; omega
  dsimp only
  walk_at "auto"
  refine ye_lst ?_
  walk_at "auto"
  refine ye_draw (gr := []) ne hs (by omega) ?_
  walk_at "auto"
  refine ⟨by simp, by decide, by decide, fun r s1 h0 h1 ok1 => ?_⟩
  obtain ⟨v, hv⟩ := ints_at (xs := [0, 2, 4, 6, 9, 12]) h0 h1
  rw [List.append_nil]
  refine ixA_L (xs := ([0, 2, 4, 6, 9, 12] : List Int).map dI) (.l _ _ (.im _)) hv ?_
  walk_at "auto"
  refine ye_lc (yi_any (ye_callQ ?_))
  walk_at "auto"
  refine ⟨(kk, cc, []), ⟨rfl, wf⟩, ?_⟩
  refine ⟨_, _, .lst _, fun i acc gg => ∃ (ch : List Str) (s' : Strm), gg = strG sA sB s' ∧ StOk (k + 1 + i) s' ∧ acc = ch.map dS ∧ ch.Sublist ((lawMenu kk cc).take i), ⟨[], s1, rfl, ok1, rfl, by simp⟩, fun _ _ _ _ c hc => by simp at hc, ?_, ?_⟩
  · rintro i d acc gg hd ⟨ch, s', rfl, ok, rfl, hsub⟩
    obtain ⟨c, hc, rfl⟩ := map_get hd
    have hi : i < (lawMenu kk cc).length := (List.getElem?_eq_some_iff.mp hc).1
    have hcl := hsub.length_le
    rw [List.length_take] at hcl
    refine wgc_name (by simp) ?_
    walk_at "auto"
    refine ye_draw (gr := []) ne ok (by omega) ?_
    walk_at "auto"
    refine ⟨by simp, by decide, by decide, fun r2 s2 h20 h21 ok2 => ?_⟩
    rw [List.append_nil]
    walk_at "auto"
    · refine ⟨by rw [List.length_map]; omega, ch ++ [c], s2, rfl, ok2, by rw [List.map_append]; rfl, ?_⟩
      rw [take_succ' hc]
      exact hsub.append (List.Sublist.refl _)
    · refine ⟨ch, s2, rfl, ok2, rfl, ?_⟩
      rw [take_succ' hc]
      exact hsub.trans (List.sublist_append_left _ _)
  · rintro acc gg ⟨ch, s2, rfl, ok2, rfl, hsub⟩
    have hsub2 := hsub
    dsimp only at hsub2 ok2
    rw [List.length_map, List.take_length] at hsub2
    rw [List.length_map] at ok2
    walk_at "auto"
    refine ixA_D (.im _ _) dlb_k ?_
    walk_at "auto"
    refine ixA_D (.im _ _) dlb_c ?_
    walk_at "auto"
    refine ⟨lawKeys, [dKinds kk, .lst (cc.map dRow), .lst (ch.map dS)], rfl, by decide +kernel, rfl, by decide, ?_⟩
    exact hQ ch s2 hsub2 (ok2.le (by omega))
def R_rules : RS := ndR (α := Addr × Addr × Strm × Nat) (fun x ds g => ds = [.v (.ref x.1), dI 3, dI 4] ∧ g = strG x.1 x.2.1 x.2.2.1 ∧ x.1 ≠ x.2.1 ∧ StOk x.2.2.2 x.2.2.1 ∧ x.2.2.2 < 600000)
  (fun x d g' => ∃ kk cc ch s', d = dLB kk cc ch ∧ WfB kk cc ∧ kk.length ≤ 3 ∧ 1 ≤ kk.length ∧ 1 ≤ cc.length ∧ cc.length ≤ 4 ∧ ch.Sublist (lawMenu kk cc) ∧ g' = strG x.1 x.2.1 s' ∧ StOk (x.2.2.2 + 300) s')
abbrev N__law_rules : List Str := ["_law_stream", "_law_many", "_law_most"]
theorem sc__law_rules : FnScope N__law_rules ["_law_stream", "_law_many", "_law_most"] (defScope (top 55)) := ⟨rfl, rfl, rfl, by decide +kernel, rfl, by decide +kernel, by decide +kernel⟩
theorem ok__law_rules {f : Addr} {fd : FuncData} (T : Txt K mg) (c__law_draw : Cal P w K mg base CX0 1 "_law_draw" ["_law_stream", "_law_many"] (spR R_draw)) (c__law_shape : Cal P w K mg base CX0 4 "_law_shape" ["_law_stream", "_law_many", "_law_most"] (spR R_shape)) (c__law_checked : Cal P w K mg base CX0 2 "_law_checked" ["_law_stream", "_law_b"] (spR R_checked)) (F : FunD K "_law_rules" "_law_rules" (defArgs (top 55)) (defBody (top 55)) (defScope (top 55)) [] [] f fd) : FnOk P w K mg base CX0 5 f fd ["_law_stream", "_law_many", "_law_most"] (spR R_rules) := by
  refine okW F sc__law_rules (by rintro ds g Q ⟨x, ⟨rfl, _⟩, _⟩; rfl) fun cdv A outer s H E hr => ⟨_, PSs.nox (pss_one (ps_ret (pe_cal c__law_checked (hr.mono (by decide)) rfl pass0 (pa_cons (pv 0) (pa_cons (pe_cal c__law_shape (hr.mono (by decide)) rfl pass0 (pa_cons (pv 0) (pa_cons (pe_op op_addA pe_int (pe_cal c__law_draw (hr.mono (by decide)) rfl pass0 (pa_cons (pv 0) (pa_cons (pv 1) pa_nil)))) (pa_cons (pv 2) pa_nil)))) pa_nil))))), ?_⟩
  rintro ds g Q ⟨⟨sA, sB, s, k⟩, ⟨rfl, rfl, ne, hs, hk⟩, hQ⟩
  replace ne : sA ≠ sB := ne
  replace hs : StOk k s := hs
  replace hk : k < 600000 := hk
  dsimp only
  walk_at "auto"
  refine ye_call ?_
  walk_at "auto"
  refine ye_call ?_
  walk_at "auto"
  refine ye_draw (gr := []) ne hs (by omega) ?_
  walk_at "auto"
  refine ⟨by simp, by decide, by decide, fun r s1 h0 h1 ok1 => ?_⟩
  rw [List.append_nil]
  obtain ⟨q, rfl⟩ := Int.eq_ofNat_of_zero_le h0
  walk_at "auto"
  rw [show ((1 : Int) + (q : Int)) = ((1 + q : Nat) : Int) by omega]
  refine ⟨_, [], (List.append_nil _).symm, ⟨(sA, sB, s1, k + 1, 1 + q, 4), ⟨rfl, rfl, ne, ok1, by show k + 1 < 700000; omega, by show 1 ≤ 1 + q; omega, by show 1 + q ≤ 3; omega, by show 1 ≤ 4; decide, by show 4 ≤ 4; decide⟩, ?_⟩⟩
  rintro d g' ⟨kk, cc, s2, rfl, wf, w1, w2, w3, w4, rfl, ok2⟩
  rw [List.append_nil]
  replace ok2 : StOk (k + 1 + 200) s2 := ok2
  walk_at "auto"
  refine ⟨_, [], (List.append_nil _).symm, ⟨(sA, sB, s2, k + 1 + 200, kk, cc), ⟨rfl, rfl, ne, ok2, by show k + 1 + 200 < 700000; omega, wf, w1, w4⟩, ?_⟩⟩
  rintro d g' ⟨ch, s3, rfl, hsub, rfl, ok3⟩
  rw [List.append_nil]
  replace ok3 : StOk (k + 1 + 200 + 50) s3 := ok3
  exact hQ _ _ ⟨kk, cc, ch, s3, rfl, wf, w1, w2, w3, w4, hsub, rfl, ok3.le (by show _ ≤ k + 300; omega)⟩
def bookOf (kk : List (Str × Bool)) (cc : List Col) (ch : List Str) : BookS := ⟨kk, cc, (menu (kk.map (·.1)) (cc.map (·.word))).filter fun c => decide (c ∈ ch)⟩
def R_made (K : PySem.W.Frag) : RS := pureR (α := List (Str × Bool) × List Col × List Str) (fun x ds => ds = [dLB x.1 x.2.1 x.2.2] ∧ WfB x.1 x.2.1 ∧ ∀ c ∈ x.2.2, c ∈ lawMenu x.1 x.2.1) (fun x => dBook K (bookOf x.1 x.2.1 x.2.2))
abbrev N__law_made : List Str := ["_law_b"]
theorem sc__law_made : FnScope N__law_made ["_law_b"] (defScope (top 56)) := ⟨rfl, rfl, rfl, by decide +kernel, rfl, by decide +kernel, by decide +kernel⟩
theorem ok__law_made {f : Addr} {fd : FuncData} (T : Txt K mg) (c_Book : MkC P w K mg base CX0 4 (He.ga K "Book") "Book" ["self", "kinds", "columns", "checks"] (spR (R_Book___init__ K))) (F : FunD K "_law_made" "_law_made" (defArgs (top 56)) (defBody (top 56)) (defScope (top 56)) [] [] f fd) : FnOk P w K mg base CX0 6 f fd ["_law_b"] (spR (R_made K)) := by
  refine okW F sc__law_made (by rintro ds g Q ⟨_, x, ⟨rfl, _⟩, _⟩; rfl) fun cdv A outer s H E hr => ⟨_, PSs.nox (pss_one (ps_ret (pe_mkc c_Book (hr.mono (by decide)) rfl pass0 (pa_cons (pe_ix (k_ix (K := K) rfl (hu_of hr)) (pv 0) pe_str (fun _ _ => rfl)) (pa_cons (pe_ix (k_ix (K := K) rfl (hu_of hr)) (pv 0) pe_str (fun _ _ => rfl)) (pa_cons (pe_ix (k_ix (K := K) rfl (hu_of hr)) (pv 0) pe_str (fun _ _ => rfl)) pa_nil)))))), ?_⟩
  rintro ds g Q ⟨rfl, ⟨kk, cc, ch⟩, ⟨rfl, wf, hch⟩, hQ⟩
  dsimp only
  walk_at "auto"
  refine ye_makeQ ?_
  walk_at "auto"
  refine ixA_D (.im _ _) dlb_k ?_
  walk_at "auto"
  refine ixA_D (.im _ _) dlb_c ?_
  walk_at "auto"
  refine ixA_D (.im _ _) dlb_h ?_
  walk_at "auto"
  refine fun a ha => ⟨(a, kk, cc, ch), _, _, ⟨rfl, rfl, wf, hch⟩, rfl, ?_⟩
  exact hQ
end
end Ls
set_option Elab.async false
set_option linter.all false
set_option maxRecDepth 100000
set_option maxHeartbeats 4000000
set_option autoImplicit false
namespace Ls
open PySem PySem.Spec PyProof.Rows L2 Dl
local macro_rules | `(tactic| walk_at "nof") => `(tactic| first
  | with_reducible exact Txt.n_Column_word (by assumption)
  | with_reducible exact Txt.n_Column_home (by assumption)
  | with_reducible exact Txt.n_Column_goal (by assumption)
  | with_reducible exact Txt.n_Column_rule (by assumption)
  | with_reducible exact Txt.n_Book_open_kinds (by assumption)
  | with_reducible exact Txt.n_Book_column_rows (by assumption)
  | with_reducible exact Txt.n_Book_column_table (by assumption)
  | with_reducible exact Txt.n_Book_all_checks (by assumption)
  | with_reducible exact Txt.n_Book_own_checks (by assumption)
  | with_reducible exact Txt.n_Watch_law_book (by assumption)
  | with_reducible exact Txt.n_Watch_home (by assumption)
  | with_reducible exact Txt.n_Watch_can_mark (by assumption)
  | with_reducible exact Txt.n_Watch_sorts (by assumption)
  | with_reducible exact Txt.n_KindWatch_law_book (by assumption)
  | with_reducible exact Txt.n_KindWatch_home (by assumption)
  | with_reducible exact Txt.n_KindWatch_can_mark (by assumption)
  | with_reducible exact Txt.n_KindWatch_sorts (by assumption)
  | with_reducible exact Txt.n_ColumnWatch_law_book (by assumption)
  | with_reducible exact Txt.n_ColumnWatch_home (by assumption)
  | with_reducible exact Txt.n_ColumnWatch_can_mark (by assumption)
  | with_reducible exact Txt.n_ColumnWatch_sorts (by assumption)
  | with_reducible exact Txt.n_ColumnWatch_by (by assumption)
  | with_reducible exact Txt.n_ColumnWatch_goal (by assumption)
  | with_reducible exact Txt.n_ColumnWatch_other_column (by assumption)
  | with_reducible exact Txt.n_Weaver_watch (by assumption)
  | with_reducible exact Txt.n_Weaver_way (by assumption)
  | with_reducible exact Txt.n_Weaver_made (by assumption)
  | with_reducible exact Txt.n_Weaver_held (by assumption)
  | with_reducible exact Txt.n_Weaver_chains (by assumption)
  | with_reducible exact Txt.n_Weaver_unused (by assumption))
local macro_rules | `(tactic| walk_at "cls") => `(tactic| first
  | with_reducible exact Txt.cl_Column (by assumption)
  | with_reducible exact Txt.cl_Book (by assumption)
  | with_reducible exact Txt.cl_Watch (by assumption)
  | with_reducible exact Txt.cl_KindWatch (by assumption)
  | with_reducible exact Txt.cl_ColumnWatch (by assumption)
  | with_reducible exact Txt.cl_Weaver (by assumption))
local macro_rules | `(tactic| walk_at "dlf") => `(tactic| first
  | with_reducible exact dlf_Column_word ..
  | with_reducible exact dlf_Column_home ..
  | with_reducible exact dlf_Column_goal ..
  | with_reducible exact dlf_Column_rule ..
  | with_reducible exact dlf_Book_open_kinds ..
  | with_reducible exact dlf_Book_column_rows ..
  | with_reducible exact dlf_Book_column_table ..
  | with_reducible exact dlf_Book_all_checks ..
  | with_reducible exact dlf_Book_own_checks ..
  | with_reducible exact dlf_Watch_law_book ..
  | with_reducible exact dlf_Watch_home ..
  | with_reducible exact dlf_Watch_can_mark ..
  | with_reducible exact dlf_Watch_sorts ..
  | with_reducible exact dlf_KindWatch_law_book ..
  | with_reducible exact dlf_KindWatch_home ..
  | with_reducible exact dlf_KindWatch_can_mark ..
  | with_reducible exact dlf_KindWatch_sorts ..
  | with_reducible exact dlf_ColumnWatch_law_book ..
  | with_reducible exact dlf_ColumnWatch_home ..
  | with_reducible exact dlf_ColumnWatch_can_mark ..
  | with_reducible exact dlf_ColumnWatch_sorts ..
  | with_reducible exact dlf_ColumnWatch_by ..
  | with_reducible exact dlf_ColumnWatch_goal ..
  | with_reducible exact dlf_ColumnWatch_other_column ..
  | with_reducible exact dlf_Weaver_watch ..
  | with_reducible exact dlf_Weaver_way ..
  | with_reducible exact dlf_Weaver_made ..
  | with_reducible exact dlf_Weaver_held ..
  | with_reducible exact dlf_Weaver_chains ..
  | with_reducible exact dlf_Weaver_unused ..)
local macro_rules | `(tactic| walk_at "len") => `(tactic| first | decide | (simp; done) | omega | (simp; omega) | (simp only [PySem.Str.length_append, sizeLine_eq, len_empty, len_space]; omega))
local macro_rules | `(tactic| walk_at "go1") => `(tactic| first
  | with_reducible refine ws_seq ?_
  | with_reducible refine ws_set ?_
  | with_reducible refine ws_ret ?_
  | with_reducible refine ws_if ?_
  | with_reducible refine ws_drop ?_
  | with_reducible refine ws_next ?_
  | with_reducible refine ws_retN ?_
  | with_reducible refine ws_cont ?_
  | with_reducible refine ws_brk ?_
  | with_reducible refine ws_asg ?_
  | with_reducible refine ye_var (by with_unfolding_all rfl) ?_
  | with_reducible refine ye_c ?_
  | with_reducible refine ye_op ?_
  | with_reducible refine ye_cb ?_
  | with_reducible refine ye_bm ?_
  | with_reducible refine ye_m1 ?_
  | with_reducible refine ye_if ?_
  | with_reducible refine ye_andV ?_
  | with_reducible refine ye_orV ?_
  | with_reducible refine ye_notV ?_
  | with_reducible refine ye_join ?_
  | with_reducible refine ye_fmt ?_
  | with_reducible refine ye_fld ?_
  | with_reducible refine ye_items ?_
  | with_reducible refine ye_sl ?_
  | with_reducible refine ye_tup ?_
  | with_reducible refine yo_none ?_
  | with_reducible refine yo_some ?_
  | with_reducible refine yt_B ?_
  | with_reducible refine yt_test ?_
  | with_reducible refine yt_and ?_
  | with_reducible refine yt_or ?_
  | with_reducible refine yt_not ?_
  | with_reducible refine yt_yes ?_
  | with_reducible refine ya_nil ?_
  | with_reducible refine ya_cons ?_
  | with_reducible refine ya_starA ?_
  | with_reducible refine yj_nil ?_
  | with_reducible refine yj_cons ?_
  | with_reducible refine wg_name ?_
  | with_reducible refine eqA_S ?_
  | with_reducible refine neA_S ?_
  | with_reducible refine eqA_I ?_
  | with_reducible refine neA_I ?_
  | with_reducible refine addA_I ?_
  | with_reducible refine rd_I0 ?_
  | with_reducible refine isi_SS ?_
  | with_reducible refine rc_strS ?_
  | with_reducible refine rd_isN ?_
  | with_reducible refine rd_notN ?_
  | with_reducible refine chain_I ?_
  | with_reducible refine rc_lenS (by walk_at "len") ?_
  | with_reducible refine inA_S ?_
  | with_reducible refine ws_fld1 (by with_unfolding_all rfl) (by walk_at "cls") (by walk_at "nof") (by decide +kernel) (by decide +kernel) ?_
  | with_reducible refine ⟨_, _, _, _, OV.im _ _ _, by walk_at "cls", by walk_at "nof", by walk_at "dlf", ?_⟩
  | with_reducible refine ⟨_, _, _, _, OV.mu _ _ _ _ (List.mem_singleton.mpr rfl), by walk_at "cls", by walk_at "nof", by with_unfolding_all rfl, ?_⟩
  | with_reducible refine ⟨(rfl : ([_] : G) = _), ?_⟩
  | with_reducible refine ⟨_, _, _, rfl, rfl, rfl, ?_⟩
  | refine iteT ?_
  | refine iteF ?_
  | with_reducible refine ⟨_, rfl, ?_⟩
  | with_reducible refine ⟨(by walk_at "len" : List.length _ ≤ _), ?_⟩
  | with_reducible refine ⟨(by walk_at "len" : PySem.Str.length _ ≤ _), ?_⟩)
local macro_rules | `(tactic| walk_at "go") => `(tactic| repeat walk_at "go1")
local macro_rules | `(tactic| walk_at "end") => `(tactic| first | rfl | exact ⟨rfl, rfl⟩ | exact ⟨_, rfl, rfl⟩ | exact ⟨_, _, rfl, rfl⟩)
local macro_rules | `(tactic| walk_at "auto1") => `(tactic| first | walk_at "go1" | walk_at "own" | refine iteT' (by decide +kernel) ?_ | refine iteF' (by decide +kernel) ?_ | refine iteB (fun h => ?_) (fun h => ?_))
local macro_rules | `(tactic| walk_at "auto") => `(tactic| repeat' walk_at "auto1")
local macro_rules | `(tactic| walk_at "own") => `(tactic| first
  | with_reducible refine rd_bookF ?_
  | with_reducible refine rd_bookT ?_
  | with_reducible refine ⟨_, _, OV.im _ _ _, by decide +kernel, ?_⟩
  | with_reducible refine ixA_L (.t _) (by with_unfolding_all rfl) ?_
  | with_reducible refine ixA_L (.r _ _ _) (by with_unfolding_all rfl) ?_
  | with_reducible refine wg_tupN (by repeat constructor) ⟨_, rfl, rfl, rfl, ?_⟩
  | with_reducible refine ye_lackC ?_
  | with_reducible refine inA_b2F ?_
  | with_reducible refine inA_b2T ?_
  | with_reducible refine inA_SF ?_
  | with_reducible refine inA_ST ?_
  | with_reducible refine inA_hereF (by assumption) ?_
  | with_reducible refine inA_hereT (by assumption) ?_
  | with_reducible refine ye_disp ?_
  | with_reducible refine yp_cons ?_
  | with_reducible refine yp_nil ?_
  | with_reducible refine ya_star ?_
  | refine ye_lack (by with_unfolding_all rfl) (by show 1 ≠ 0; decide) ?_
  | refine ye_methQ ?_)
section
variable {P : Program} {w : World} {K : PySem.W.Frag} {mg : Str → Option Value} {base : Heap}
theorem menu_mem {kk cc : List Str} {c : Str} : c ∈ menu kk cc ↔ (∃ w ∈ cc, ∃ s ∈ colSorts, c = chk s w) ∨ (∃ w ∈ kk, ∃ s ∈ kindSorts, c = chk s w) ∨ c = "lone" ∨ c = "fresh" := by
  unfold menu
  simp only [List.mem_append, List.mem_flatten, List.mem_map, List.mem_cons, List.not_mem_nil, or_false]
  constructor
  · rintro ((⟨l, ⟨w, hw, rfl⟩, h⟩ | ⟨l, ⟨w, hw, rfl⟩, h⟩) | h)
    · obtain ⟨s, hs, rfl⟩ := List.mem_map.mp h
      exact .inl ⟨w, hw, s, hs, rfl⟩
    · obtain ⟨s, hs, rfl⟩ := List.mem_map.mp h
      exact .inr (.inl ⟨w, hw, s, hs, rfl⟩)
    · exact .inr (.inr h)
  · rintro (⟨w, hw, s, hs, rfl⟩ | ⟨w, hw, s, hs, rfl⟩ | h)
    · exact .inl (.inl ⟨_, ⟨w, hw, rfl⟩, List.mem_map.mpr ⟨s, hs, rfl⟩⟩)
    · exact .inl (.inr ⟨_, ⟨w, hw, rfl⟩, List.mem_map.mpr ⟨s, hs, rfl⟩⟩)
    · exact .inr h
theorem sorts_nosp : (∀ s ∈ colSorts, 32 ∉ s.cps.toList) ∧ ∀ s ∈ kindSorts, 32 ∉ s.cps.toList := by decide +kernel
/-- checks that do not speak of a name stay in the menu of a book without it -/
theorem menu_keep {kk kk' : List (Str × Bool)} {cc cc' : List Col} {nm c : Str} (wf : WfB kk cc) (h : c ∈ lawMenu kk cc) (hn : nm ∉ Txt.split c " ") (hk : ∀ w ∈ kk.map (·.1), w ≠ nm → w ∈ kk'.map (·.1)) (hc : ∀ w ∈ cc.map (·.word), w ≠ nm → w ∈ cc'.map (·.word)) : c ∈ lawMenu kk' cc' := by
  unfold lawMenu at h ⊢
  rw [menu_mem] at h ⊢
  rcases h with ⟨w, hw, s, hs, rfl⟩ | ⟨w, hw, s, hs, rfl⟩ | h
  · have hwn := name_nosp (wf.names.ok w (List.mem_append_right _ hw))
    rw [split_chk (sorts_nosp.1 s hs) hwn] at hn
    exact .inl ⟨w, hc w hw (fun e => hn (by simp [e])), s, hs, rfl⟩
  · have hwn := name_nosp (wf.names.ok w (List.mem_append_left _ hw))
    rw [split_chk (sorts_nosp.2 s hs) hwn] at hn
    exact .inr (.inl ⟨w, hk w hw (fun e => hn (by simp [e])), s, hs, rfl⟩)
  · exact .inr (.inr h)
theorem menu_short {kk : List (Str × Bool)} {cc : List Col} {c : Str} (wf : WfB kk cc) (h : c ∈ lawMenu kk cc) : c.length ≤ 100 := by
  unfold lawMenu at h
  rw [menu_mem] at h
  have hl : ∀ s w : Str, (chk s w).length = s.length + 1 + w.length := fun s w => by unfold chk; rw [PySem.Str.length_append, PySem.Str.length_append, len_space]
  rcases h with ⟨w, hw, s, hs, rfl⟩ | ⟨w, hw, s, hs, rfl⟩ | rfl | rfl
  · have h1 := wf.names.len w (List.mem_append_right _ hw)
    have h2 := (by decide +kernel : ∀ s ∈ colSorts, s.length ≤ 5) s hs
    rw [hl]; omega
  · have h1 := wf.names.len w (List.mem_append_left _ hw)
    have h2 := (by decide +kernel : ∀ s ∈ kindSorts, s.length ≤ 5) s hs
    rw [hl]; omega
  · decide +kernel
  · decide +kernel
def spareL : List Str := ["zq", "zr", "zs", "zt", "zu", "zv", "zw", "zx"]
theorem spare_ok : (∀ w ∈ spareL, isName w = true ∧ w.length ≤ 8) ∧ spareL.Nodup ∧ spareL.length = 8 := by decide +kernel
theorem spare_left {ns : List Str} (h : ns.length < 8) : ∃ w, (spareL.filter fun w => !decide (w ∈ ns)).head? = some w ∧ w ∈ spareL ∧ w ∉ ns := by
  cases e : spareL.filter fun w => !decide (w ∈ ns) with
  | nil =>
    have hsub : ∀ w ∈ spareL, w ∈ ns := fun w hw => by
      apply Classical.byContradiction
      intro n
      have : w ∈ spareL.filter fun w => !decide (w ∈ ns) := List.mem_filter.mpr ⟨hw, by simp [n]⟩
      rw [e] at this; cases this
    have := List.Nodup.length_le_of_subset spare_ok.2.1 hsub
    rw [spare_ok.2.2] at this
    omega
  | cons w l =>
    have hw : w ∈ spareL.filter fun w => !decide (w ∈ ns) := by rw [e]; simp
    obtain ⟨h1, h2⟩ := List.mem_filter.mp hw
    exact ⟨w, rfl, h1, by simpa using h2⟩
/-- another shape, the old checks without those of the name nm -/
structure Unl (kk kk' : List (Str × Bool)) (cc cc' : List Col) (nm : Str) : Prop where
  wf : WfB kk' cc'
  ne : ¬ (kk = kk' ∧ cc = cc')
  hk : ∀ w ∈ kk.map (·.1), w ≠ nm → w ∈ kk'.map (·.1)
  hc : ∀ w ∈ cc.map (·.word), w ≠ nm → w ∈ cc'.map (·.word)
theorem WfNames.perm {a b : List Str} (w : WfNames a) (h : a.Perm b) : WfNames b :=
  ⟨h.nodup_iff.mp w.nd, fun n hn => w.ok n (h.mem_iff.mpr hn), fun n hn => w.len n (h.mem_iff.mpr hn), by rw [← h.length_eq]; exact w.few⟩
theorem rot_perm {α : Type} (l : List α) : l.Perm (l.drop 1 ++ l.take 1) := by
  have := List.perm_append_comm (l₁ := l.take 1) (l₂ := l.drop 1)
  rwa [List.take_append_drop] at this
theorem rot_ne {α β : Type} {f : α → β} {l : List α} (h : 1 < l.length) (nd : (l.map f).Nodup) : l ≠ l.drop 1 ++ l.take 1 := by
  match l, h with
  | a :: b :: r, _ =>
    intro e
    have e2 : a = b := by
      have := congrArg List.head? e
      simpa using this
    subst e2
    simp at nd
theorem unl_drop {kk : List (Str × Bool)} {cc : List Col} {i : Nat} {c : Col} (wf : WfB kk cc) (hi : cc[i]? = some c) : Unl kk kk cc (cc.take i ++ cc.drop (i + 1)) c.word := by
  have hsp : cc = cc.take i ++ c :: cc.drop (i + 1) := by
    obtain ⟨hl, e⟩ := List.getElem?_eq_some_iff.mp hi
    rw [← e, List.getElem_cons_drop hl, List.take_append_drop]
  have hsub : (cc.take i ++ cc.drop (i + 1)).Sublist cc := by
    conv => rhs; rw [hsp]
    exact List.Sublist.append (List.Sublist.refl _) (List.sublist_cons_self _ _)
  refine ⟨⟨wf.names.sub ?_, fun c hc => wf.home c (hsub.subset hc), fun c hc => wf.goal c (hsub.subset hc)⟩, ?_, fun w hw _ => hw, fun w hw hne => ?_⟩
  · exact List.Sublist.append (List.Sublist.refl _) (hsub.map _)
  · rintro ⟨_, e⟩
    have hl := congrArg List.length e
    rw [List.length_append, List.length_take, List.length_drop] at hl
    have := (List.getElem?_eq_some_iff.mp hi).1
    omega
  · rw [hsp, List.map_append, List.map_cons, List.mem_append, List.mem_cons] at hw
    rw [List.map_append, List.mem_append]
    rcases hw with h | h | h
    · exact .inl h
    · exact absurd h hne
    · exact .inr h
theorem map_set_same {α β : Type} {f : α → β} {l : List α} {i : Nat} {a b : α} (h : l[i]? = some a) (e : f b = f a) : (l.set i b).map f = l.map f := by
  rw [List.map_set, e]
  obtain ⟨hl, ea⟩ := List.getElem?_eq_some_iff.mp h
  rw [← ea]
  apply List.ext_getElem
  · simp
  · intro j h1 h2
    by_cases hj : i = j
    · subst hj; simp
    · simp [List.getElem_set_ne hj]
theorem unl_rule {kk : List (Str × Bool)} {cc : List Col} {i : Nat} {c : Col} (wf : WfB kk cc) (hi : cc[i]? = some c) : Unl kk kk cc (cc.set i { c with fall := !c.fall }) c.word := by
  have hin : c ∈ cc := List.mem_of_getElem? hi
  have hw : (cc.set i { c with fall := !c.fall }).map (·.word) = cc.map (·.word) := map_set_same hi rfl
  refine ⟨⟨by rw [hw]; exact wf.names, fun d hd => ?_, fun d hd => ?_⟩, ?_, fun w h _ => h, fun w h _ => by rw [hw]; exact h⟩
  · rcases List.mem_or_eq_of_mem_set hd with h | rfl
    · exact wf.home d h
    · exact wf.home c hin
  · rcases List.mem_or_eq_of_mem_set hd with h | rfl
    · exact wf.goal d h
    · exact wf.goal c hin
  · rintro ⟨_, e⟩
    have hl := (List.getElem?_eq_some_iff.mp hi).1
    have : (cc.set i { c with fall := !c.fall })[i]? = some { c with fall := !c.fall } := by simp [hl]
    rw [← e, hi] at this
    have := congrArg Col.fall (Option.some.inj this)
    cases hf : c.fall <;> simp [hf] at this
theorem unl_open {kk : List (Str × Bool)} {cc : List Col} {k : Str × Bool} {nm : Str} (wf : WfB kk cc) (hi : kk[0]? = some k) : Unl kk (kk.set 0 (k.1, !k.2)) cc cc nm := by
  have hw : (kk.set 0 (k.1, !k.2)).map (·.1) = kk.map (·.1) := map_set_same hi rfl
  refine ⟨⟨by rw [hw]; exact wf.names, fun d hd => by rw [hw]; exact wf.home d hd, fun d hd => by rw [hw]; exact wf.goal d hd⟩, ?_, fun w h _ => by rw [hw]; exact h, fun w h _ => h⟩
  rintro ⟨e, _⟩
  have hl := (List.getElem?_eq_some_iff.mp hi).1
  have : (kk.set 0 (k.1, !k.2))[0]? = some (k.1, !k.2) := by simp [hl]
  rw [← e, hi] at this
  have := congrArg Prod.snd (Option.some.inj this)
  cases hf : k.2 <;> simp [hf] at this
theorem unl_rotC {kk : List (Str × Bool)} {cc : List Col} {nm : Str} (wf : WfB kk cc) (h : 1 < cc.length) : Unl kk kk cc (cc.drop 1 ++ cc.take 1) nm := by
  have hp := rot_perm cc
  refine ⟨⟨wf.names.perm (List.Perm.append_left _ (hp.map _)), fun d hd => wf.home d (hp.mem_iff.mpr hd), fun d hd => wf.goal d (hp.mem_iff.mpr hd)⟩, ?_, fun w h _ => h, fun w h _ => (hp.map _).mem_iff.mp h⟩
  rintro ⟨_, e⟩
  exact rot_ne h (List.nodup_append.mp wf.names.nd).2.1 e
theorem unl_rotK {kk : List (Str × Bool)} {cc : List Col} {nm : Str} (wf : WfB kk cc) (h : 1 < kk.length) : Unl kk (kk.drop 1 ++ kk.take 1) cc cc nm := by
  have hp := rot_perm kk
  refine ⟨⟨wf.names.perm (List.Perm.append_right _ (hp.map _)), fun d hd => (hp.map _).mem_iff.mp (wf.home d hd), fun d hd => (hp.map _).mem_iff.mp (wf.goal d hd)⟩, ?_, fun w h _ => (hp.map _).mem_iff.mp h, fun w h _ => h⟩
  rintro ⟨e, _⟩
  exact rot_ne h wf.kinds.nd e
theorem nodup_set : ∀ {l : List Str} {i : Nat} {w : Str}, l.Nodup → w ∉ l → (l.set i w).Nodup
  | [], _, _, _, _ => by simp
  | x :: l, 0, w, nd, h => by
    rw [List.set_cons_zero]
    exact List.nodup_cons.mpr ⟨fun z => h (List.mem_cons_of_mem _ z), (List.nodup_cons.mp nd).2⟩
  | x :: l, i + 1, w, nd, h => by
    rw [List.set_cons_succ]
    refine List.nodup_cons.mpr ⟨fun z => ?_, nodup_set (List.nodup_cons.mp nd).2 fun z => h (List.mem_cons_of_mem _ z)⟩
    rcases List.mem_or_eq_of_mem_set z with z | z
    · exact (List.nodup_cons.mp nd).1 z
    · exact h (by rw [z]; exact List.mem_cons_self)
theorem unl_name {kk : List (Str × Bool)} {cc : List Col} {i : Nat} {c : Col} {w : Str} (wf : WfB kk cc) (hi : cc[i]? = some c) (h1 : isName w = true) (h2 : w.length ≤ 8) (h3 : w ∉ kk.map (·.1)) (h4 : w ∉ cc.map (·.word)) : Unl kk kk cc (cc.set i { c with word := w }) c.word := by
  have hin : c ∈ cc := List.mem_of_getElem? hi
  obtain ⟨hl, ec⟩ := List.getElem?_eq_some_iff.mp hi
  have hm : (cc.set i { c with word := w }).map (·.word) = (cc.map (·.word)).set i w := by rw [List.map_set]
  have hsub : ∀ n ∈ (cc.map (·.word)).set i w, n ∈ cc.map (·.word) ∨ n = w := fun n hn => List.mem_or_eq_of_mem_set hn
  obtain ⟨ndk, ndc, dis⟩ := List.nodup_append.mp wf.names.nd
  refine ⟨⟨⟨?_, fun n hn => ?_, fun n hn => ?_, ?_⟩, fun d hd => ?_, fun d hd => ?_⟩, ?_, fun w h _ => h, fun n hn hne => ?_⟩
  · rw [hm]
    refine List.nodup_append.mpr ⟨ndk, ?_, fun a ha b hb e => ?_⟩
    · exact nodup_set ndc h4
    · subst e
      rcases hsub a hb with h | h
      · exact dis a ha a h rfl
      · subst h; exact h3 ha
  · rw [hm] at hn
    rcases List.mem_append.mp hn with h | h
    · exact wf.names.ok n (List.mem_append_left _ h)
    · rcases hsub n h with h | rfl
      · exact wf.names.ok n (List.mem_append_right _ h)
      · exact h1
  · rw [hm] at hn
    rcases List.mem_append.mp hn with h | h
    · exact wf.names.len n (List.mem_append_left _ h)
    · rcases hsub n h with h | rfl
      · exact wf.names.len n (List.mem_append_right _ h)
      · exact h2
  · rw [hm, List.length_append, List.length_set]
    have := wf.names.few
    rwa [List.length_append] at this
  · rcases List.mem_or_eq_of_mem_set hd with h | rfl
    · exact wf.home d h
    · exact wf.home c hin
  · rcases List.mem_or_eq_of_mem_set hd with h | rfl
    · exact wf.goal d h
    · exact wf.goal c hin
  · rintro ⟨_, e⟩
    refine h4 ?_
    rw [e, hm]
    exact List.mem_iff_getElem?.mpr ⟨i, by rw [List.getElem?_set_self (by rw [List.length_map]; exact hl)]⟩
  · rw [hm]
    obtain ⟨j, hj⟩ := List.getElem?_of_mem hn
    refine List.mem_iff_getElem?.mpr ⟨j, ?_⟩
    by_cases hij : i = j
    · subst hij
      rw [List.getElem?_map, hi] at hj
      exact absurd (Option.some.inj hj).symm hne
    · rw [List.getElem?_set_ne hij]; exact hj
end
end Ls
set_option Elab.async false
set_option linter.all false
set_option maxRecDepth 100000
set_option maxHeartbeats 4000000
set_option autoImplicit false
namespace Ls
open PySem PySem.Spec PyProof.Rows L2 Dl
local macro_rules | `(tactic| walk_at "nof") => `(tactic| first
  | with_reducible exact Txt.n_Column_word (by assumption)
  | with_reducible exact Txt.n_Column_home (by assumption)
  | with_reducible exact Txt.n_Column_goal (by assumption)
  | with_reducible exact Txt.n_Column_rule (by assumption)
  | with_reducible exact Txt.n_Book_open_kinds (by assumption)
  | with_reducible exact Txt.n_Book_column_rows (by assumption)
  | with_reducible exact Txt.n_Book_column_table (by assumption)
  | with_reducible exact Txt.n_Book_all_checks (by assumption)
  | with_reducible exact Txt.n_Book_own_checks (by assumption)
  | with_reducible exact Txt.n_Watch_law_book (by assumption)
  | with_reducible exact Txt.n_Watch_home (by assumption)
  | with_reducible exact Txt.n_Watch_can_mark (by assumption)
  | with_reducible exact Txt.n_Watch_sorts (by assumption)
  | with_reducible exact Txt.n_KindWatch_law_book (by assumption)
  | with_reducible exact Txt.n_KindWatch_home (by assumption)
  | with_reducible exact Txt.n_KindWatch_can_mark (by assumption)
  | with_reducible exact Txt.n_KindWatch_sorts (by assumption)
  | with_reducible exact Txt.n_ColumnWatch_law_book (by assumption)
  | with_reducible exact Txt.n_ColumnWatch_home (by assumption)
  | with_reducible exact Txt.n_ColumnWatch_can_mark (by assumption)
  | with_reducible exact Txt.n_ColumnWatch_sorts (by assumption)
  | with_reducible exact Txt.n_ColumnWatch_by (by assumption)
  | with_reducible exact Txt.n_ColumnWatch_goal (by assumption)
  | with_reducible exact Txt.n_ColumnWatch_other_column (by assumption)
  | with_reducible exact Txt.n_Weaver_watch (by assumption)
  | with_reducible exact Txt.n_Weaver_way (by assumption)
  | with_reducible exact Txt.n_Weaver_made (by assumption)
  | with_reducible exact Txt.n_Weaver_held (by assumption)
  | with_reducible exact Txt.n_Weaver_chains (by assumption)
  | with_reducible exact Txt.n_Weaver_unused (by assumption))
local macro_rules | `(tactic| walk_at "cls") => `(tactic| first
  | with_reducible exact Txt.cl_Column (by assumption)
  | with_reducible exact Txt.cl_Book (by assumption)
  | with_reducible exact Txt.cl_Watch (by assumption)
  | with_reducible exact Txt.cl_KindWatch (by assumption)
  | with_reducible exact Txt.cl_ColumnWatch (by assumption)
  | with_reducible exact Txt.cl_Weaver (by assumption))
local macro_rules | `(tactic| walk_at "dlf") => `(tactic| first
  | with_reducible exact dlf_Column_word ..
  | with_reducible exact dlf_Column_home ..
  | with_reducible exact dlf_Column_goal ..
  | with_reducible exact dlf_Column_rule ..
  | with_reducible exact dlf_Book_open_kinds ..
  | with_reducible exact dlf_Book_column_rows ..
  | with_reducible exact dlf_Book_column_table ..
  | with_reducible exact dlf_Book_all_checks ..
  | with_reducible exact dlf_Book_own_checks ..
  | with_reducible exact dlf_Watch_law_book ..
  | with_reducible exact dlf_Watch_home ..
  | with_reducible exact dlf_Watch_can_mark ..
  | with_reducible exact dlf_Watch_sorts ..
  | with_reducible exact dlf_KindWatch_law_book ..
  | with_reducible exact dlf_KindWatch_home ..
  | with_reducible exact dlf_KindWatch_can_mark ..
  | with_reducible exact dlf_KindWatch_sorts ..
  | with_reducible exact dlf_ColumnWatch_law_book ..
  | with_reducible exact dlf_ColumnWatch_home ..
  | with_reducible exact dlf_ColumnWatch_can_mark ..
  | with_reducible exact dlf_ColumnWatch_sorts ..
  | with_reducible exact dlf_ColumnWatch_by ..
  | with_reducible exact dlf_ColumnWatch_goal ..
  | with_reducible exact dlf_ColumnWatch_other_column ..
  | with_reducible exact dlf_Weaver_watch ..
  | with_reducible exact dlf_Weaver_way ..
  | with_reducible exact dlf_Weaver_made ..
  | with_reducible exact dlf_Weaver_held ..
  | with_reducible exact dlf_Weaver_chains ..
  | with_reducible exact dlf_Weaver_unused ..)
local macro_rules | `(tactic| walk_at "len") => `(tactic| first | decide | (simp; done) | omega | (simp; omega) | (simp only [PySem.Str.length_append, sizeLine_eq, len_empty, len_space]; omega))
local macro_rules | `(tactic| walk_at "go1") => `(tactic| first
  | with_reducible refine ws_seq ?_
  | with_reducible refine ws_set ?_
  | with_reducible refine ws_ret ?_
  | with_reducible refine ws_if ?_
  | with_reducible refine ws_drop ?_
  | with_reducible refine ws_next ?_
  | with_reducible refine ws_retN ?_
  | with_reducible refine ws_cont ?_
  | with_reducible refine ws_brk ?_
  | with_reducible refine ws_asg ?_
  | with_reducible refine ye_var (by with_unfolding_all rfl) ?_
  | with_reducible refine ye_c ?_
  | with_reducible refine ye_op ?_
  | with_reducible refine ye_cb ?_
  | with_reducible refine ye_bm ?_
  | with_reducible refine ye_m1 ?_
  | with_reducible refine ye_if ?_
  | with_reducible refine ye_andV ?_
  | with_reducible refine ye_orV ?_
  | with_reducible refine ye_notV ?_
  | with_reducible refine ye_join ?_
  | with_reducible refine ye_fmt ?_
  | with_reducible refine ye_fld ?_
  | with_reducible refine ye_items ?_
  | with_reducible refine ye_sl ?_
  | with_reducible refine ye_tup ?_
  | with_reducible refine yo_none ?_
  | with_reducible refine yo_some ?_
  | with_reducible refine yt_B ?_
  | with_reducible refine yt_test ?_
  | with_reducible refine yt_and ?_
  | with_reducible refine yt_or ?_
  | with_reducible refine yt_not ?_
  | with_reducible refine yt_yes ?_
  | with_reducible refine ya_nil ?_
  | with_reducible refine ya_cons ?_
  | with_reducible refine ya_starA ?_
  | with_reducible refine yj_nil ?_
  | with_reducible refine yj_cons ?_
  | with_reducible refine wg_name ?_
  | with_reducible refine eqA_S ?_
  | with_reducible refine neA_S ?_
  | with_reducible refine eqA_I ?_
  | with_reducible refine neA_I ?_
  | with_reducible refine addA_I ?_
  | with_reducible refine rd_I0 ?_
  | with_reducible refine isi_SS ?_
  | with_reducible refine rc_strS ?_
  | with_reducible refine rd_isN ?_
  | with_reducible refine rd_notN ?_
  | with_reducible refine chain_I ?_
  | with_reducible refine rc_lenS (by walk_at "len") ?_
  | with_reducible refine inA_S ?_
  | with_reducible refine ws_fld1 (by with_unfolding_all rfl) (by walk_at "cls") (by walk_at "nof") (by decide +kernel) (by decide +kernel) ?_
  | with_reducible refine ⟨_, _, _, _, OV.im _ _ _, by walk_at "cls", by walk_at "nof", by walk_at "dlf", ?_⟩
  | with_reducible refine ⟨_, _, _, _, OV.mu _ _ _ _ (List.mem_singleton.mpr rfl), by walk_at "cls", by walk_at "nof", by with_unfolding_all rfl, ?_⟩
  | with_reducible refine ⟨(rfl : ([_] : G) = _), ?_⟩
  | with_reducible refine ⟨_, _, _, rfl, rfl, rfl, ?_⟩
  | refine iteT ?_
  | refine iteF ?_
  | with_reducible refine ⟨_, rfl, ?_⟩
  | with_reducible refine ⟨(by walk_at "len" : List.length _ ≤ _), ?_⟩
  | with_reducible refine ⟨(by walk_at "len" : PySem.Str.length _ ≤ _), ?_⟩)
local macro_rules | `(tactic| walk_at "go") => `(tactic| repeat walk_at "go1")
local macro_rules | `(tactic| walk_at "end") => `(tactic| first | rfl | exact ⟨rfl, rfl⟩ | exact ⟨_, rfl, rfl⟩ | exact ⟨_, _, rfl, rfl⟩)
local macro_rules | `(tactic| walk_at "auto1") => `(tactic| first | walk_at "go1" | walk_at "own" | refine iteT' (by decide +kernel) ?_ | refine iteF' (by decide +kernel) ?_ | refine iteB (fun h => ?_) (fun h => ?_))
local macro_rules | `(tactic| walk_at "auto") => `(tactic| repeat' walk_at "auto1")
local macro_rules | `(tactic| walk_at "own") => `(tactic| first
  | with_reducible refine rd_bookF ?_
  | with_reducible refine rd_bookT ?_
  | with_reducible refine ⟨_, _, OV.im _ _ _, by decide +kernel, ?_⟩
  | with_reducible refine ixA_L (.t _) (by with_unfolding_all rfl) ?_
  | with_reducible refine ixA_L (.r _ _ _) (by with_unfolding_all rfl) ?_
  | with_reducible refine wg_tupN (by repeat constructor) ⟨_, rfl, rfl, rfl, ?_⟩
  | with_reducible refine ye_lackC ?_
  | with_reducible refine inA_b2F ?_
  | with_reducible refine inA_b2T ?_
  | with_reducible refine inA_SF ?_
  | with_reducible refine inA_ST ?_
  | with_reducible refine inA_hereF (by assumption) ?_
  | with_reducible refine inA_hereT (by assumption) ?_
  | with_reducible refine ye_disp ?_
  | with_reducible refine yp_cons ?_
  | with_reducible refine yp_nil ?_
  | with_reducible refine ya_star ?_
  | refine ye_lack (by with_unfolding_all rfl) (by show 1 ≠ 0; decide) ?_
  | refine ye_methQ ?_)
section
variable {P : Program} {w : World} {K : PySem.W.Frag} {mg : Str → Option Value} {base : Heap}
abbrev dKind (k : Str × Bool) : D := .tup [dS k.1, dB k.2]
theorem setG_app {g1 g2 : G} {a : Addr} {m : MO} (h : a ∉ ks g1) : setG (g1 ++ g2) a m = g1 ++ setG g2 a m := by
  unfold setG
  rw [List.map_append]
  congr 1
  refine (List.map_congr_left fun p hp => if_neg fun e => h ?_).trans (List.map_id' _)
  exact List.mem_map.mpr ⟨p, hp, e⟩
theorem cutG_to {xs : List D} {m : Nat} : Dl.cutD xs none (some (m : Int)) = xs.take m := by
  unfold Dl.cutD
  rw [HT.sIx_nat, HT.sIx_none, List.drop_zero, Nat.sub_zero]
  by_cases hh : m ≤ xs.length
  · rw [Nat.min_eq_left hh]
  · rw [Nat.min_eq_right (by omega), List.take_of_length_le (Nat.le_refl _), List.take_of_length_le (by omega)]
theorem cutG_from {xs : List D} {m : Nat} : Dl.cutD xs (some (m : Int)) none = xs.drop m := by
  unfold Dl.cutD
  rw [HT.sIx_nat, HT.sIx_none]
  by_cases hh : m ≤ xs.length
  · rw [Nat.min_eq_left hh, List.take_of_length_le (by rw [List.length_drop]; omega)]
  · rw [Nat.min_eq_right (by omega), List.drop_of_length_le (Nat.le_refl _), List.drop_of_length_le (by omega)]
    simp
theorem ixN_nat {n i : Nat} (h : i < n) : ixN n (i : Int) = some i := by
  unfold ixN
  rw [if_pos (by omega), if_pos (by omega)]
  simp
theorem atI_nat2 {xs : List D} {i : Nat} {d : D} (h : xs[i]? = some d) : atI xs (i : Int) = some d := by
  show (ixN xs.length (i : Int)).bind (fun j => xs[j]?) = some d
  rw [ixN_nat (List.getElem?_eq_some_iff.mp h).1]
  exact h
theorem yt_eqI {K : PySem.W.Frag} {env : DEnv} {g : G} {i : Nat} {a n : Int} {Φ : Bool → G → Prop} (h : env[i]? = some (some (dI a))) (q : Φ (decide (a = n)) g) : YT (tTest (tOp (rEqA K) (tVar i) (tC (.int n)))) env g Φ := yt_test (ye_op (ye_var h (ye_c (eqA_I ⟨_, rfl, q⟩))))
theorem rule_flip {c : Col} : dRow { c with fall := !c.fall } = .tup [dS c.word, dS c.home, dS c.goal, dS (if c.fall then "clear" else "fall")] := by
  unfold dRow Col.rule
  cases c.fall <;> rfl
def R_unlike : RS := ndR (α := Addr × Addr × Strm × Nat × List (Str × Bool) × List Col × List Str) (fun x ds g => ds = [.v (.ref x.1), dLB x.2.2.2.2.1 x.2.2.2.2.2.1 x.2.2.2.2.2.2] ∧ g = strG x.1 x.2.1 x.2.2.1 ∧ x.1 ≠ x.2.1 ∧ StOk x.2.2.2.1 x.2.2.1 ∧ x.2.2.2.1 < 700000 ∧ WfB x.2.2.2.2.1 x.2.2.2.2.2.1 ∧ x.2.2.2.2.1.length ≤ 3 ∧ 1 ≤ x.2.2.2.2.1.length ∧ 1 ≤ x.2.2.2.2.2.1.length ∧ x.2.2.2.2.2.1.length ≤ 4 ∧ (∀ c ∈ x.2.2.2.2.2.2, c ∈ lawMenu x.2.2.2.2.1 x.2.2.2.2.2.1) ∧ x.2.2.2.2.2.2.length ≤ 100)
  (fun x d g' => ∃ kk cc ch s', d = dLB kk cc ch ∧ WfB kk cc ∧ ¬ (x.2.2.2.2.1 = kk ∧ x.2.2.2.2.2.1 = cc) ∧ (∀ c ∈ ch, c ∈ lawMenu kk cc) ∧ g' = strG x.1 x.2.1 s' ∧ StOk (x.2.2.2.1 + 2) s')
abbrev N__law_unlike : List Str := ["_law_stream", "_law_b", "_law_at", "_law_checks", "_law_kinds", "_law_columns", "_law_way", "_law_name", "_law_home", "_law_goal", "_law_rule", "_law_check", "_law_spare", "_law_word", "_law_one"]
theorem sc__law_unlike : FnScope N__law_unlike ["_law_stream", "_law_b"] (defScope (top 57)) := ⟨rfl, rfl, rfl, by decide +kernel, rfl, by decide +kernel, by decide +kernel⟩
theorem ok__law_unlike {f : Addr} {fd : FuncData} (T : Txt K mg) (c__law_draw : Cal P w K mg base CX0 1 "_law_draw" ["_law_stream", "_law_many"] (spR R_draw)) (F : FunD K "_law_unlike" "_law_unlike" (defArgs (top 57)) (defBody (top 57)) (defScope (top 57)) [] [] f fd) : FnOk P w K mg base CX0 2 f fd ["_law_stream", "_law_b"] (spR R_unlike) := by
  refine okW F sc__law_unlike (by rintro ds g Q ⟨x, ⟨rfl, _⟩, _⟩; rfl) fun cdv A outer s H E hr => ⟨_, PSs.nox (pss_cons (ps_asg (pe_tup (pa_cons (pe_callTy (k_list (K := K) rfl) (by rfl) T.f_list boot_list (pa_cons (pe_ix (k_ix (K := K) rfl (hu_of hr)) (pv 1) pe_str (fun _ _ => rfl)) pa_nil)) (pa_cons (pe_callTy (k_list (K := K) rfl) (by rfl) T.f_list boot_list (pa_cons (pe_ix (k_ix (K := K) rfl (hu_of hr)) (pv 1) pe_str (fun _ _ => rfl)) pa_nil)) (pa_cons (pe_cal c__law_draw (hr.mono (by decide)) rfl pass0 (pa_cons (pv 0) (pa_cons pe_int pa_nil))) pa_nil)))) (k_tup (K := K) (n := 3) rfl rfl (pgs_cons (pg_name (i := 4) sc__law_unlike.nd rfl (by first | exact Or.inl rfl | exact Or.inr rfl)) (pgs_cons (pg_name (i := 5) sc__law_unlike.nd rfl (by first | exact Or.inl rfl | exact Or.inr rfl)) (pgs_cons (pg_name (i := 6) sc__law_unlike.nd rfl (by first | exact Or.inl rfl | exact Or.inr rfl)) pgs_nil)))))
      (pss_cons (ps_set (i := 2) sc__law_unlike.nd rfl (by first | exact Or.inl rfl | exact Or.inr rfl) (pe_cal c__law_draw (hr.mono (by decide)) rfl pass0 (pa_cons (pv 0) (pa_cons (pe_callB (k_len (K := K) rfl) (by rfl) T.f_len (by decide +kernel) (pa_cons (pv 5) pa_nil)) pa_nil))))
      (pss_cons (ps_asg (pe_ix (k_ix (K := K) rfl (hu_of hr)) (pv 5) (pv 2) (fun _ _ => rfl)) (k_tup (K := K) (n := 4) rfl rfl (pgs_cons (pg_name (i := 7) sc__law_unlike.nd rfl (by first | exact Or.inl rfl | exact Or.inr rfl)) (pgs_cons (pg_name (i := 8) sc__law_unlike.nd rfl (by first | exact Or.inl rfl | exact Or.inr rfl)) (pgs_cons (pg_name (i := 9) sc__law_unlike.nd rfl (by first | exact Or.inl rfl | exact Or.inr rfl)) (pgs_cons (pg_name (i := 10) sc__law_unlike.nd rfl (by first | exact Or.inl rfl | exact Or.inr rfl)) pgs_nil))))))
      (pss_cons (ps_if (pt_cmpR (k_eq (K := K) rfl hr.units) (pv 6) pe_int (nomark _)) (pss_one (ps_set (i := 5) sc__law_unlike.nd rfl (by first | exact Or.inl rfl | exact Or.inr rfl) (pe_op op_addA (pe_slice (k_sl (K := K) rfl) (pv 5) po_none (po_some (pv 2))) (pe_slice (k_sl (K := K) rfl) (pv 5) (po_some (pe_op op_addA (pv 2) pe_int)) po_none)))) (pss_one (ps_if (pt_cmpR (k_eq (K := K) rfl hr.units) (pv 6) pe_int (nomark _)) (pss_one (ps_asg (pe_tup (pa_cons (pv 7) (pa_cons (pv 8) (pa_cons (pv 9) (pa_cons (pe_ifExp (pt_cmpR (k_eq (K := K) rfl hr.units) (pv 10) pe_str (nomark _)) pe_str pe_str) pa_nil))))) (pg_sub (pv 5) (pv 2) set_list))) (pss_one (ps_if (pt_cmpR (k_eq (K := K) rfl hr.units) (pv 6) pe_int (nomark _)) (pss_one (ps_asg (pe_tup (pa_cons (pe_ix (k_ix (K := K) rfl (hu_of hr)) (pe_ix (k_ix (K := K) rfl (hu_of hr)) (pv 4) pe_int (fun _ _ => rfl)) pe_int (fun _ _ => rfl)) (pa_cons (pe_not (pe_ix (k_ix (K := K) rfl (hu_of hr)) (pe_ix (k_ix (K := K) rfl (hu_of hr)) (pv 4) pe_int (fun _ _ => rfl)) pe_int (fun _ _ => rfl))) pa_nil))) (pg_sub (pv 4) pe_int set_list))) (pss_one (ps_if (PW.pt (pw_and (pt_cmpR (k_eq (K := K) rfl hr.units) (pv 6) pe_int (nomark _)) (pw_and1 (pt_cmpR op_gt (pe_callB (k_len (K := K) rfl) (by rfl) T.f_len (by decide +kernel) (pa_cons (pv 5) pa_nil)) pe_int (nomark _))))) (pss_one (ps_set (i := 5) sc__law_unlike.nd rfl (by first | exact Or.inl rfl | exact Or.inr rfl) (pe_op op_addA (pe_slice (k_sl (K := K) rfl) (pv 5) (po_some pe_int) po_none) (pe_slice (k_sl (K := K) rfl) (pv 5) po_none (po_some pe_int))))) (pss_one (ps_if (PW.pt (pw_and (pt_cmpR (k_eq (K := K) rfl hr.units) (pv 6) pe_int (nomark _)) (pw_and1 (pt_cmpR op_gt (pe_callB (k_len (K := K) rfl) (by rfl) T.f_len (by decide +kernel) (pa_cons (pv 4) pa_nil)) pe_int (nomark _))))) (pss_one (ps_set (i := 4) sc__law_unlike.nd rfl (by first | exact Or.inl rfl | exact Or.inr rfl) (pe_op op_addA (pe_slice (k_sl (K := K) rfl) (pv 4) (po_some pe_int) po_none) (pe_slice (k_sl (K := K) rfl) (pv 4) po_none (po_some pe_int))))) (pss_cons (ps_setLc (i := 12) (own := [("_law_word", 13)]) rfl sc__law_unlike.nd rfl rfl (sw_true rfl rfl rfl (by decide +kernel)) (k_any (K := K) rfl (pe_lst (pa_cons pe_str (pa_cons pe_str (pa_cons pe_str (pa_cons pe_str (pa_cons pe_str (pa_cons pe_str (pa_cons pe_str (pa_cons pe_str pa_nil)))))))))) (blkOk_by (own := [("_law_word", 13)]) (N := N__law_unlike) (sc := defScope (top 57)) (by decide +kernel)) (fun _ _ _ _ _ => (pg_name (i := 13) sc__law_unlike.nd rfl (by first | exact Or.inl rfl | exact Or.inr rfl))) (fun _ _ _ _ _ => (pts_one (pt_cmpR (k_nin (K := K) rfl (hu_of hr)) (pv 13) (pe_callTy (k_dictP (K := K) rfl rfl) (by rfl) T.f_dict boot_dict (pa_cons (pv 4) pa_nil)) (by rfl)))) (fun _ _ _ _ _ => (pv 13)))
      (pss_one (ps_asg (pe_tup (pa_cons (pe_ix (k_ix (K := K) rfl (hu_of hr)) (pe_lc (own := [("_law_word", 13)]) rfl sc__law_unlike.nd (k_any (K := K) rfl (pv 12)) (blkOk_by (own := [("_law_word", 13)]) (N := N__law_unlike) (sc := defScope (top 57)) (by decide +kernel)) (fun _ _ _ _ _ => (pg_name (i := 13) sc__law_unlike.nd rfl (by first | exact Or.inl rfl | exact Or.inr rfl))) (fun _ _ _ _ _ => (pts_one (pt_cmpR (k_nin (K := K) rfl (hu_of hr)) (pv 13) (pe_lc (own := [("_law_one", 14)]) rfl sc__law_unlike.nd (k_any (K := K) rfl (pe_ix (k_ix (K := K) rfl (hu_of hr)) (pv 1) pe_str (fun _ _ => rfl))) (blkOk_by (own := [("_law_one", 14)]) (N := N__law_unlike) (sc := _) (by rfl)) (fun _ _ _ _ _ => (pg_name (i := 14) sc__law_unlike.nd rfl (by first | exact Or.inl rfl | exact Or.inr rfl))) (fun _ _ _ _ _ => pts_nil) (fun _ _ _ _ _ => (pe_ix (k_ix (K := K) rfl (hu_of hr)) (pv 14) pe_int (fun _ _ => rfl)))) (by rfl)))) (fun _ _ _ _ _ => (pv 13))) pe_int (fun _ _ => rfl)) (pa_cons (pv 8) (pa_cons (pv 9) (pa_cons (pv 10) pa_nil))))) (pg_sub (pv 5) (pv 2) set_list)))))))))))))
      (pss_cons (ps_setLc (i := 3) (own := [("_law_check", 11)]) rfl sc__law_unlike.nd rfl rfl (sw_true rfl rfl rfl (by decide +kernel)) (k_any (K := K) rfl (pe_ix (k_ix (K := K) rfl (hu_of hr)) (pv 1) pe_str (fun _ _ => rfl))) (blkOk_by (own := [("_law_check", 11)]) (N := N__law_unlike) (sc := defScope (top 57)) (by decide +kernel)) (fun _ _ _ _ _ => (pg_name (i := 11) sc__law_unlike.nd rfl (by first | exact Or.inl rfl | exact Or.inr rfl))) (fun _ _ _ _ _ => (pts_one (pt_cmpR (k_nin (K := K) rfl (hu_of hr)) (pv 7) (pe_splitA (pv 11) pe_str) (by rfl)))) (fun _ _ _ _ _ => (pv 11)))
      (pss_one (ps_ret (pe_frz (pe_disp (pps_cons pe_str (pv 4) (pps_cons pe_str (pv 5) (pps_cons pe_str (pv 3) pps_nil))) (by rfl) (by rfl) (fun z => by cases z) (by decide)))))))))), ?_⟩
  rintro ds g Q ⟨⟨sA, sB, s, k, kk, cc, ch⟩, ⟨rfl, rfl, ne, hs, hk, wf, hk3, hk1, hc1, hc4, hch, hchl⟩, hQ⟩
  replace ne : sA ≠ sB := ne
  replace hs : StOk k s := hs
  replace hk : k < 700000 := hk
  replace wf : WfB kk cc := wf
  replace hk3 : kk.length ≤ 3 := hk3
  replace hk1 : 1 ≤ kk.length := hk1
  replace hc1 : 1 ≤ cc.length := hc1
  replace hc4 : cc.length ≤ 4 := hc4
  replace hch : ∀ c ∈ ch, c ∈ lawMenu kk cc := hch
  replace hchl : ch.length ≤ 100 := hchl
  replace hQ : ∀ kk' cc' ch' s', WfB kk' cc' → ¬ (kk = kk' ∧ cc = cc') → (∀ c ∈ ch', c ∈ lawMenu kk' cc') → StOk (k + 2) s' → Q (dLB kk' cc' ch') (strG sA sB s') := fun kk' cc' ch' s' a b c d => hQ _ _ ⟨kk', cc', ch', s', rfl, a, b, c, rfl, d⟩
  dsimp only
  refine ws_seq (ws_asg ?_)
  walk_at "auto"
  refine ixA_D (.im _ _) dlb_k ?_
  walk_at "auto"
  refine rc_listM (.l _ _ (.im _)) fun tk htk => ?_
  walk_at "auto"
  refine ixA_D (.im _ _) dlb_c ?_
  walk_at "auto"
  refine rc_listM (.l _ _ (.im _)) fun tc htc => ?_
  walk_at "auto"
  rw [List.append_assoc]
  have hk0 : tk ∉ ks (strG sA sB s) := htk
  have htc2 : tc ∉ ks (strG sA sB s) ∧ tk ≠ tc := by
    unfold ks at htc
    rw [List.map_append, List.mem_append, not_or] at htc
    exact ⟨htc.1, fun e => htc.2 (by simp [e])⟩
  obtain ⟨hc0, hkc⟩ := htc2
  refine ye_draw (gr := [(tk, .lst (kk.map dKind)), (tc, .lst (cc.map dRow))]) ne hs (by omega) ?_
  walk_at "auto"
  refine ⟨rfl, by decide, by decide, fun way s1 h0 h1 ok1 => ?_⟩
  walk_at "auto"
  refine ye_draw (gr := [(tk, .lst (kk.map dKind)), (tc, .lst (cc.map dRow))]) ne ok1 (by omega) ?_
  walk_at "auto"
  refine rc_len (.l _ _ (.mu tc _ (List.mem_append_right _ memR))) ?_
  walk_at "auto"
  rw [List.length_map]
  refine ⟨rfl, by omega, by omega, fun at0 s2 h20 h21 ok2 => ?_⟩
  obtain ⟨i, rfl⟩ := Int.eq_ofNat_of_zero_le h20
  have hil : i < cc.length := by omega
  have hi : cc[i]? = some cc[i] := by simp [hil]
  generalize hce : cc[i] = c at hi
  have hin : c ∈ cc := List.mem_of_getElem? hi
  obtain ⟨k0, hk00⟩ : ∃ k0, kk[0]? = some k0 := ⟨kk[0], by simp [show 0 < kk.length by omega]⟩
  walk_at "auto"
  refine ixA_cell (List.mem_append_right _ memR) (atI_nat2 (d := dRow c) (by rw [List.getElem?_map, hi]; rfl)) ?_
  refine wg_tupN (by repeat constructor) ⟨[dS c.word, dS c.home, dS c.goal, dS c.rule], rfl, rfl, rfl, ?_⟩
  show WS (tSeq _ _) _ _ _
  refine ws_via (fun e gg => ∃ kk' cc' dk dc xk xc x12 x13 x14, e = [some (.v (.ref sA)), some (dLB kk cc ch), some (dI i), none, some dk, some dc, some (dI way), some (dS c.word), some (dS c.home), some (dS c.goal), some (dS c.rule), none, x12, x13, x14] ∧ gg = strG sA sB s2 ++ [(tk, .lst xk), (tc, .lst xc)] ∧ Unl kk kk' cc cc' c.word ∧ ((dk = .v (.ref tk) ∧ xk = kk'.map dKind) ∨ dk = .lst (kk'.map dKind)) ∧ ((dc = .v (.ref tc) ∧ xc = cc'.map dRow) ∨ dc = .lst (cc'.map dRow))) ?_ ?_
  · generalize hG : strG sA sB s2 ++ [(tk, MO.lst (kk.map dKind)), (tc, .lst (cc.map dRow))] = GG
    refine ws_if (yt_eqI rfl (iteB (fun hw0 => ?_) fun hw0 => ?_))
    · subst hG
      walk_at "auto"
      refine ⟨_, .lst _ _ (.mu tc _ (List.mem_append_right _ memR)), ?_⟩
      walk_at "auto"
      refine ⟨_, .lst _ _ (.mu tc _ (List.mem_append_right _ memR)), ?_⟩
      rw [show ((i : Int) + 1) = ((i + 1 : Nat) : Int) by omega, cutG_to, cutG_from]
      refine addA_L (.im _) (.im _) (by rw [List.length_take, List.length_drop, List.length_map]; omega) ?_
      exact ⟨kk, _, _, _, _, _, none, none, none, rfl, rfl, unl_drop wf hi, .inl ⟨rfl, rfl⟩, .inr (by rw [List.map_append, List.map_take, List.map_drop])⟩
    refine ws_if (yt_eqI rfl (iteB (fun hw1 => ?_) fun hw1 => ?_))
    · subst hG
      walk_at "auto"
      · refine wg_sub ?_
        walk_at "auto"
        refine ⟨tc, _, i, i, rfl, rfl, List.mem_append_right _ memR, ixN_nat (by rw [List.length_map]; exact hil), ?_⟩
        rw [setG_app (notin_strG hc0), setG_two_r hkc]
        refine ⟨kk, _, _, _, _, _, none, none, none, rfl, rfl, unl_rule wf hi, .inl ⟨rfl, rfl⟩, .inl ⟨rfl, ?_⟩⟩
        rw [List.map_set, rule_flip]
        have hr2 : decide (c.rule = "fall") = c.fall := by unfold Col.rule; cases c.fall <;> decide +kernel
        rename_i hr
        rw [hr2] at hr
        rw [hr]
        rfl
      · refine wg_sub ?_
        walk_at "auto"
        refine ⟨tc, _, i, i, rfl, rfl, List.mem_append_right _ memR, ixN_nat (by rw [List.length_map]; exact hil), ?_⟩
        rw [setG_app (notin_strG hc0), setG_two_r hkc]
        refine ⟨kk, _, _, _, _, _, none, none, none, rfl, rfl, unl_rule wf hi, .inl ⟨rfl, rfl⟩, .inl ⟨rfl, ?_⟩⟩
        rw [List.map_set, rule_flip]
        have hr2 : decide (c.rule = "fall") = c.fall := by unfold Col.rule; cases c.fall <;> decide +kernel
        rename_i hr
        rw [hr2] at hr
        rw [hr]
        rfl
    refine ws_if (yt_eqI rfl (iteB (fun hw2 => ?_) fun hw2 => ?_))
    · subst hG
      walk_at "auto"
      refine ixA_cell (List.mem_append_right _ memL) (atI_nat2 (i := 0) (d := dKind k0) (by rw [List.getElem?_map, hk00]; rfl)) ?_
      walk_at "auto"
      refine ixA_cell (List.mem_append_right _ memL) (atI_nat2 (i := 0) (d := dKind k0) (by rw [List.getElem?_map, hk00]; rfl)) ?_
      walk_at "auto"
      refine wg_sub ?_
      walk_at "auto"
      refine ⟨tk, _, 0, 0, rfl, rfl, List.mem_append_right _ memL, ixN_nat (i := 0) (by rw [List.length_map]; omega), ?_⟩
      rw [setG_app (notin_strG hk0), setG_two_l hkc]
      exact ⟨_, cc, _, _, _, _, none, none, none, rfl, rfl, unl_open wf hk00, .inl ⟨rfl, by rw [List.map_set]⟩, .inl ⟨rfl, rfl⟩⟩
    refine ws_if (YT.mono (Φ := fun b g1 => g1 = GG ∧ (b = true → 1 < cc.length)) ?_ fun b g1 hb => ?_)
    · subst hG
      refine yt_and (yt_eqI rfl (iteB (fun hw3 => ?_) fun hw3 => ?_))
      · walk_at "auto"
        refine rc_len (.l _ _ (.mu tc _ (List.mem_append_right _ memR))) ?_
        rw [List.length_map]
        refine ye_c (rd_I0 ⟨_, rfl, rfl, fun h => ?_⟩)
        have := of_decide_eq_true h; omega
      · exact ⟨rfl, fun h => by cases h⟩
    obtain ⟨rfl, hb⟩ := hb
    refine iteB (fun hbt => ?_) fun hbt => ?_
    · subst hG
      have h1l := hb hbt
      walk_at "auto"
      refine ⟨_, .lst _ _ (.mu tc _ (List.mem_append_right _ memR)), ?_⟩
      walk_at "auto"
      refine ⟨_, .lst _ _ (.mu tc _ (List.mem_append_right _ memR)), ?_⟩
      rw [show (1 : Int) = ((1 : Nat) : Int) from rfl, cutG_to, cutG_from]
      refine addA_L (.im _) (.im _) (by rw [List.length_take, List.length_drop, List.length_map]; omega) ?_
      exact ⟨kk, _, _, _, _, _, none, none, none, rfl, rfl, unl_rotC wf h1l, .inl ⟨rfl, rfl⟩, .inr (by rw [List.map_append, List.map_take, List.map_drop])⟩
    clear hb
    refine ws_if (YT.mono (Φ := fun b g2 => g2 = g1 ∧ (b = true → 1 < kk.length)) ?_ fun b g2 hb => ?_)
    · subst hG
      refine yt_and (yt_eqI rfl (iteB (fun hw3 => ?_) fun hw3 => ?_))
      · walk_at "auto"
        refine rc_len (.l _ _ (.mu tk _ (List.mem_append_right _ memL))) ?_
        rw [List.length_map]
        refine ye_c (rd_I0 ⟨_, rfl, rfl, fun h => ?_⟩)
        have := of_decide_eq_true h; omega
      · exact ⟨rfl, fun h => by cases h⟩
    obtain ⟨rfl, hb⟩ := hb
    refine iteB (fun hbt2 => ?_) fun hbt2 => ?_
    · subst hG
      have h1l := hb hbt2
      walk_at "auto"
      refine ⟨_, .lst _ _ (.mu tk _ (List.mem_append_right _ memL)), ?_⟩
      walk_at "auto"
      refine ⟨_, .lst _ _ (.mu tk _ (List.mem_append_right _ memL)), ?_⟩
      rw [show (1 : Int) = ((1 : Nat) : Int) from rfl, cutG_to, cutG_from]
      refine addA_L (.im _) (.im _) (by rw [List.length_take, List.length_drop, List.length_map]; omega) ?_
      exact ⟨_, cc, _, _, _, _, none, none, none, rfl, rfl, unl_rotK wf h1l, .inr (by rw [List.map_append, List.map_take, List.map_drop]), .inl ⟨rfl, rfl⟩⟩
    subst hG
    walk_at "auto"
    refine ye_lc (yi_any (ye_lst ?_))
    walk_at "auto"
    refine ⟨_, _, .lst _, fun j acc gg => gg = strG sA sB s2 ++ [(tk, .lst (kk.map dKind)), (tc, .lst (cc.map dRow))] ∧ acc = ((spareL.take j).filter fun w => !decide (w ∈ kk.map (·.1))).map dS, ⟨rfl, rfl⟩, fun _ _ _ _ c hc => by simp at hc, ?_, ?_⟩
    · rintro j d acc gg hd ⟨rfl, rfl⟩
      obtain ⟨w, hw, rfl⟩ := map_get (f := dS) (xs := spareL) hd
      refine wgc_name (by simp) ?_
      refine yt_sub ?_
      walk_at "auto"
      refine rc_dictP (ps := kk.map fun k => (k.1, dB k.2)) (by
        have := LV.mu (g := strG sA sB s2 ++ [(tk, .lst (kk.map dKind)), (tc, .lst (cc.map dRow))]) tk (kk.map dKind) (List.mem_append_right _ memL)
        rw [List.map_map]; exact this) (by rw [List.map_map]; exact wf.kinds.nd) fun a ha => ?_
      refine inA_D (neg := true) (.mu a _ _ mem_last) ?_
      rw [List.map_map, show kin (Sum.inr w : Key) (kk.map ((fun p => Sum.inr p.1) ∘ fun k => (k.1, dB k.2))) = decide (w ∈ kk.map (·.1)) from kin_strs]
      walk_at "auto"
      refine ⟨_, List.sublist_append_left _ _, ?_⟩
      rw [if_pos rfl]
      by_cases hwk : w ∈ kk.map (·.1)
      · rw [decide_eq_true hwk]
        refine ⟨rfl, ?_⟩
        rw [take_succ' hw, List.filter_append]
        simp only [List.filter_cons, List.filter_nil, hwk, decide_true, Bool.not_true, Bool.false_eq_true, if_false, List.append_nil]
      · rw [decide_eq_false hwk]
        walk_at "auto"
        refine ⟨Nat.lt_of_le_of_lt (by rw [List.length_map]; exact Nat.le_trans (List.length_filter_le _ _) (List.length_take_le' _ _)) (by decide : spareL.length < 1000000), rfl, ?_⟩
        rw [take_succ' hw, List.filter_append, List.map_append]
        simp only [List.filter_cons, List.filter_nil, hwk, decide_false, Bool.not_false, if_true, List.map_cons, List.map_nil]
    · rintro acc gg ⟨rfl, hacc⟩
      replace hacc : acc = (spareL.filter fun w => !decide (w ∈ kk.map (·.1))).map dS := hacc
      subst hacc
      walk_at "auto"
      refine lc_fn (α := Str) (fun w => !decide (w ∈ cc.map (·.word))) dS (yi_any ?_)
      walk_at "auto"
      refine ⟨_, _, .lst _, fun c hc => by simp at hc, spareL.filter (fun w => !decide (w ∈ kk.map (·.1))), dS, rfl, Nat.lt_of_le_of_lt (List.length_filter_le _ _) (by decide), fun w hw => wgc_name (by simp) ?_, ?_⟩
      · walk_at "auto"
        refine lc_map (α := Col) (fun c => dS c.word) (yi_any ?_)
        walk_at "auto"
        refine ixA_D (.im _ _) dlb_c ?_
        refine ⟨_, _, .lst _, fun c hc => by simp at hc, cc, dRow, rfl, by omega, fun c hc => wgc_name (by simp) ?_, ?_⟩
        · walk_at "auto"
          exact ⟨rfl, rfl⟩
        refine inA_L (neg := true) (ss := cc.map (·.word)) (.l _ _ (.im _)) (by rw [List.map_map]; rfl) ?_
        walk_at "auto"
        refine ⟨rfl, fun _ => ?_, fun _ => rfl⟩
        walk_at "auto"
        exact ⟨rfl, rfl⟩
      obtain ⟨w, hw1, hw2, hw3⟩ := spare_left (ns := kk.map (·.1) ++ cc.map (·.word)) (by rw [List.length_append, List.length_map, List.length_map]; omega)
      have hw4 : ((spareL.filter fun w => !decide (w ∈ kk.map (·.1))).filter fun w => !decide (w ∈ cc.map (·.word))).head? = some w := by
        rw [List.filter_filter, ← hw1]
        congr 1
        refine List.filter_congr fun x hx => ?_
        by_cases a : x ∈ kk.map (·.1) <;> by_cases b : x ∈ cc.map (·.word) <;> simp only [List.mem_append, a, b, decide_true, decide_false, Bool.not_true, Bool.not_false, Bool.and_true, Bool.and_false, or_true, or_false, true_or]
      rw [List.mem_append, not_or] at hw3
      walk_at "auto"
      refine ixA_L (d := dS w) (.l _ _ (.im _)) (head_atI (by rw [List.head?_map, hw4]; rfl)) ?_
      walk_at "auto"
      refine wg_sub ?_
      walk_at "auto"
      refine ⟨tc, _, i, i, rfl, rfl, List.mem_append_right _ memR, ixN_nat (by rw [List.length_map]; exact hil), ?_⟩
      rw [setG_app (notin_strG hc0), setG_two_r hkc]
      exact ⟨kk, cc.set i { c with word := w }, _, _, _, _, _, _, _, rfl, rfl, unl_name wf hi (spare_ok.1 w hw2).1 (spare_ok.1 w hw2).2 hw3.1 hw3.2, .inl ⟨rfl, rfl⟩, .inl ⟨rfl, by rw [List.map_set]; rfl⟩⟩
  · rintro e gg ⟨kk', cc', dk, dc, xk, xc, x12, x13, x14, rfl, rfl, hu, hdk, hdc⟩
    have sub1 : (strG sA sB s2 ++ [(tc, MO.lst xc)]).Sublist (strG sA sB s2 ++ [(tk, .lst xk), (tc, .lst xc)]) := List.Sublist.append (List.Sublist.refl _) (List.sublist_cons_self _ _)
    have sub2 : (strG sA sB s2).Sublist (strG sA sB s2 ++ [(tc, MO.lst xc)]) := List.sublist_append_left _ _
    have ntk : tk ∉ ks (strG sA sB s2 ++ [(tc, MO.lst xc)]) := fun z => by
      unfold ks at z
      rw [List.map_append, List.mem_append] at z
      rcases z with z | z
      · exact hk0 z
      · simp at z; exact hkc z
    have stepC : ∀ {ts : TS} {env : DEnv} {E : DE}, env[5]? = some (some dc) → WS ts (env.set 5 (some (.lst (cc'.map dRow)))) (strG sA sB s2) E → WS ts env (strG sA sB s2 ++ [(tc, MO.lst xc)]) E := by
      intro ts env E h5 h
      rcases hdc with ⟨rfl, rfl⟩ | rfl
      · exact ws_frzA h5 mem_last sub2 hc0 h
      · refine ws_sub sub2 ?_
        rwa [show env.set 5 (some (.lst (cc'.map dRow))) = env from by
          apply List.ext_getElem?
          intro j
          by_cases hj : 5 = j
          · subst hj
            rw [h5, List.getElem?_set_self (List.getElem?_eq_some_iff.mp h5).1]
          · rw [List.getElem?_set_ne hj]] at h
    have stepK : ∀ {ts : TS} {env : DEnv} {E : DE}, env[4]? = some (some dk) → WS ts (env.set 4 (some (.lst (kk'.map dKind)))) (strG sA sB s2 ++ [(tc, MO.lst xc)]) E → WS ts env (strG sA sB s2 ++ [(tk, .lst xk), (tc, .lst xc)]) E := by
      intro ts env E h4 h
      rcases hdk with ⟨rfl, rfl⟩ | rfl
      · exact ws_frzA h4 (List.mem_append_right _ memL) sub1 ntk h
      · refine ws_sub sub1 ?_
        rwa [show env.set 4 (some (.lst (kk'.map dKind))) = env from by
          apply List.ext_getElem?
          intro j
          by_cases hj : 4 = j
          · subst hj
            rw [h4, List.getElem?_set_self (List.getElem?_eq_some_iff.mp h4).1]
          · rw [List.getElem?_set_ne hj]] at h
    refine stepK rfl (stepC rfl ?_)
    walk_at "auto"
    refine lc_fn (α := Str) (fun w => !decide (c.word ∈ Txt.split w " ")) dS (yi_any ?_)
    walk_at "auto"
    refine ixA_D (.im _ _) dlb_h ?_
    refine ⟨_, _, .lst _, fun c hc => by simp at hc, ch, dS, rfl, by omega, fun w hw => wgc_name (by simp) ?_, ?_⟩
    · walk_at "auto"
      refine rm_split (by decide +kernel) (by have := menu_short wf (hch w hw); omega) ?_
      refine inA_L (neg := true) (.l _ _ (.im _)) rfl ?_
      walk_at "auto"
      refine ⟨rfl, fun _ => ?_, fun _ => rfl⟩
      walk_at "auto"
      exact ⟨rfl, rfl⟩
    walk_at "auto"
    refine ⟨lawKeys, [dKinds kk', .lst (cc'.map dRow), .lst ((ch.filter fun w => !decide (c.word ∈ Txt.split w " ")).map dS)], rfl, by decide +kernel, rfl, by decide, ?_⟩
    refine hQ kk' cc' _ s2 hu.wf hu.ne (fun w hw => ?_) ok2
    obtain ⟨hw1, hw2⟩ := List.mem_filter.mp hw
    exact menu_keep wf (hch w hw1) (by simpa using hw2) hu.hk hu.hc
end
end Ls
set_option Elab.async false
set_option linter.all false
set_option maxRecDepth 100000
set_option maxHeartbeats 4000000
set_option autoImplicit false
namespace Ls
open PySem PySem.Spec PyProof.Rows L2 Dl
local macro_rules | `(tactic| walk_at "nof") => `(tactic| first
  | with_reducible exact Txt.n_Column_word (by assumption)
  | with_reducible exact Txt.n_Column_home (by assumption)
  | with_reducible exact Txt.n_Column_goal (by assumption)
  | with_reducible exact Txt.n_Column_rule (by assumption)
  | with_reducible exact Txt.n_Book_open_kinds (by assumption)
  | with_reducible exact Txt.n_Book_column_rows (by assumption)
  | with_reducible exact Txt.n_Book_column_table (by assumption)
  | with_reducible exact Txt.n_Book_all_checks (by assumption)
  | with_reducible exact Txt.n_Book_own_checks (by assumption)
  | with_reducible exact Txt.n_Watch_law_book (by assumption)
  | with_reducible exact Txt.n_Watch_home (by assumption)
  | with_reducible exact Txt.n_Watch_can_mark (by assumption)
  | with_reducible exact Txt.n_Watch_sorts (by assumption)
  | with_reducible exact Txt.n_KindWatch_law_book (by assumption)
  | with_reducible exact Txt.n_KindWatch_home (by assumption)
  | with_reducible exact Txt.n_KindWatch_can_mark (by assumption)
  | with_reducible exact Txt.n_KindWatch_sorts (by assumption)
  | with_reducible exact Txt.n_ColumnWatch_law_book (by assumption)
  | with_reducible exact Txt.n_ColumnWatch_home (by assumption)
  | with_reducible exact Txt.n_ColumnWatch_can_mark (by assumption)
  | with_reducible exact Txt.n_ColumnWatch_sorts (by assumption)
  | with_reducible exact Txt.n_ColumnWatch_by (by assumption)
  | with_reducible exact Txt.n_ColumnWatch_goal (by assumption)
  | with_reducible exact Txt.n_ColumnWatch_other_column (by assumption)
  | with_reducible exact Txt.n_Weaver_watch (by assumption)
  | with_reducible exact Txt.n_Weaver_way (by assumption)
  | with_reducible exact Txt.n_Weaver_made (by assumption)
  | with_reducible exact Txt.n_Weaver_held (by assumption)
  | with_reducible exact Txt.n_Weaver_chains (by assumption)
  | with_reducible exact Txt.n_Weaver_unused (by assumption))
local macro_rules | `(tactic| walk_at "cls") => `(tactic| first
  | with_reducible exact Txt.cl_Column (by assumption)
  | with_reducible exact Txt.cl_Book (by assumption)
  | with_reducible exact Txt.cl_Watch (by assumption)
  | with_reducible exact Txt.cl_KindWatch (by assumption)
  | with_reducible exact Txt.cl_ColumnWatch (by assumption)
  | with_reducible exact Txt.cl_Weaver (by assumption))
local macro_rules | `(tactic| walk_at "dlf") => `(tactic| first
  | with_reducible exact dlf_Column_word ..
  | with_reducible exact dlf_Column_home ..
  | with_reducible exact dlf_Column_goal ..
  | with_reducible exact dlf_Column_rule ..
  | with_reducible exact dlf_Book_open_kinds ..
  | with_reducible exact dlf_Book_column_rows ..
  | with_reducible exact dlf_Book_column_table ..
  | with_reducible exact dlf_Book_all_checks ..
  | with_reducible exact dlf_Book_own_checks ..
  | with_reducible exact dlf_Watch_law_book ..
  | with_reducible exact dlf_Watch_home ..
  | with_reducible exact dlf_Watch_can_mark ..
  | with_reducible exact dlf_Watch_sorts ..
  | with_reducible exact dlf_KindWatch_law_book ..
  | with_reducible exact dlf_KindWatch_home ..
  | with_reducible exact dlf_KindWatch_can_mark ..
  | with_reducible exact dlf_KindWatch_sorts ..
  | with_reducible exact dlf_ColumnWatch_law_book ..
  | with_reducible exact dlf_ColumnWatch_home ..
  | with_reducible exact dlf_ColumnWatch_can_mark ..
  | with_reducible exact dlf_ColumnWatch_sorts ..
  | with_reducible exact dlf_ColumnWatch_by ..
  | with_reducible exact dlf_ColumnWatch_goal ..
  | with_reducible exact dlf_ColumnWatch_other_column ..
  | with_reducible exact dlf_Weaver_watch ..
  | with_reducible exact dlf_Weaver_way ..
  | with_reducible exact dlf_Weaver_made ..
  | with_reducible exact dlf_Weaver_held ..
  | with_reducible exact dlf_Weaver_chains ..
  | with_reducible exact dlf_Weaver_unused ..)
local macro_rules | `(tactic| walk_at "len") => `(tactic| first | decide | (simp; done) | omega | (simp; omega) | (simp only [PySem.Str.length_append, sizeLine_eq, len_empty, len_space]; omega))
local macro_rules | `(tactic| walk_at "go1") => `(tactic| first
  | with_reducible refine ws_seq ?_
  | with_reducible refine ws_set ?_
  | with_reducible refine ws_ret ?_
  | with_reducible refine ws_if ?_
  | with_reducible refine ws_drop ?_
  | with_reducible refine ws_next ?_
  | with_reducible refine ws_retN ?_
  | with_reducible refine ws_cont ?_
  | with_reducible refine ws_brk ?_
  | with_reducible refine ws_asg ?_
  | with_reducible refine ye_var (by with_unfolding_all rfl) ?_
  | with_reducible refine ye_c ?_
  | with_reducible refine ye_op ?_
  | with_reducible refine ye_cb ?_
  | with_reducible refine ye_bm ?_
  | with_reducible refine ye_m1 ?_
  | with_reducible refine ye_if ?_
  | with_reducible refine ye_andV ?_
  | with_reducible refine ye_orV ?_
  | with_reducible refine ye_notV ?_
  | with_reducible refine ye_join ?_
  | with_reducible refine ye_fmt ?_
  | with_reducible refine ye_fld ?_
  | with_reducible refine ye_items ?_
  | with_reducible refine ye_sl ?_
  | with_reducible refine ye_tup ?_
  | with_reducible refine yo_none ?_
  | with_reducible refine yo_some ?_
  | with_reducible refine yt_B ?_
  | with_reducible refine yt_test ?_
  | with_reducible refine yt_and ?_
  | with_reducible refine yt_or ?_
  | with_reducible refine yt_not ?_
  | with_reducible refine yt_yes ?_
  | with_reducible refine ya_nil ?_
  | with_reducible refine ya_cons ?_
  | with_reducible refine ya_starA ?_
  | with_reducible refine yj_nil ?_
  | with_reducible refine yj_cons ?_
  | with_reducible refine wg_name ?_
  | with_reducible refine eqA_S ?_
  | with_reducible refine neA_S ?_
  | with_reducible refine eqA_I ?_
  | with_reducible refine neA_I ?_
  | with_reducible refine addA_I ?_
  | with_reducible refine rd_I0 ?_
  | with_reducible refine isi_SS ?_
  | with_reducible refine rc_strS ?_
  | with_reducible refine rd_isN ?_
  | with_reducible refine rd_notN ?_
  | with_reducible refine chain_I ?_
  | with_reducible refine rc_lenS (by walk_at "len") ?_
  | with_reducible refine inA_S ?_
  | with_reducible refine ws_fld1 (by with_unfolding_all rfl) (by walk_at "cls") (by walk_at "nof") (by decide +kernel) (by decide +kernel) ?_
  | with_reducible refine ⟨_, _, _, _, OV.im _ _ _, by walk_at "cls", by walk_at "nof", by walk_at "dlf", ?_⟩
  | with_reducible refine ⟨_, _, _, _, OV.mu _ _ _ _ (List.mem_singleton.mpr rfl), by walk_at "cls", by walk_at "nof", by with_unfolding_all rfl, ?_⟩
  | with_reducible refine ⟨(rfl : ([_] : G) = _), ?_⟩
  | with_reducible refine ⟨_, _, _, rfl, rfl, rfl, ?_⟩
  | refine iteT ?_
  | refine iteF ?_
  | with_reducible refine ⟨_, rfl, ?_⟩
  | with_reducible refine ⟨(by walk_at "len" : List.length _ ≤ _), ?_⟩
  | with_reducible refine ⟨(by walk_at "len" : PySem.Str.length _ ≤ _), ?_⟩)
local macro_rules | `(tactic| walk_at "go") => `(tactic| repeat walk_at "go1")
local macro_rules | `(tactic| walk_at "end") => `(tactic| first | rfl | exact ⟨rfl, rfl⟩ | exact ⟨_, rfl, rfl⟩ | exact ⟨_, _, rfl, rfl⟩)
local macro_rules | `(tactic| walk_at "auto1") => `(tactic| first | walk_at "go1" | walk_at "own" | refine iteT' (by decide +kernel) ?_ | refine iteF' (by decide +kernel) ?_ | refine iteB (fun h => ?_) (fun h => ?_))
local macro_rules | `(tactic| walk_at "auto") => `(tactic| repeat' walk_at "auto1")
local macro_rules | `(tactic| walk_at "own") => `(tactic| first
  | with_reducible refine rd_bookF ?_
  | with_reducible refine rd_bookT ?_
  | with_reducible refine ⟨_, _, OV.im _ _ _, by decide +kernel, ?_⟩
  | with_reducible refine ixA_L (.t _) (by with_unfolding_all rfl) ?_
  | with_reducible refine ixA_L (.r _ _ _) (by with_unfolding_all rfl) ?_
  | with_reducible refine wg_tupN (by repeat constructor) ⟨_, rfl, rfl, rfl, ?_⟩
  | with_reducible refine ye_lackC ?_
  | with_reducible refine inA_b2F ?_
  | with_reducible refine inA_b2T ?_
  | with_reducible refine inA_SF ?_
  | with_reducible refine inA_ST ?_
  | with_reducible refine inA_hereF (by assumption) ?_
  | with_reducible refine inA_hereT (by assumption) ?_
  | with_reducible refine ye_disp ?_
  | with_reducible refine yp_cons ?_
  | with_reducible refine yp_nil ?_
  | with_reducible refine ya_star ?_
  | refine ye_lack (by with_unfolding_all rfl) (by show 1 ≠ 0; decide) ?_
  | refine ye_methQ ?_)
section
variable {P : Program} {w : World} {K : PySem.W.Frag} {mg : Str → Option Value} {base : Heap}
noncomputable def R_refuses (K : PySem.W.Frag) : RS := pureR (α := BookS × BookS) (fun x ds => ds = [dBook K x.1, dBook K x.2] ∧ WfB x.1.kk x.1.cc ∧ WfB x.2.kk x.2.cc ∧ likeB x.1 x.2 = false) (fun _ => dB true)
abbrev N__law_refuses : List Str := ["_law_one", "_law_other"]
theorem sc__law_refuses : FnScope N__law_refuses ["_law_one", "_law_other"] (defScope (top 58)) := ⟨rfl, rfl, rfl, by decide +kernel, rfl, by decide +kernel, by decide +kernel⟩
theorem ok__law_refuses {f : Addr} {fd : FuncData} (T : Txt K mg) (TE : TxtE K mg) (TX : PySem.W.exmOne K (.ref (He.ga K "UnlikeBooks")) (.ref (He.ga K "UnlikeBooks")) = some true) (c_parting_E : Cal P w K mg base (CX P w) 4 "parting" ["one", "other"] (spE (pre_E K) (He.ga K "UnlikeBooks"))) (F : FunD K "_law_refuses" "_law_refuses" (defArgs (top 58)) (defBody (top 58)) (defScope (top 58)) [] [] f fd) : FnOk P w K mg base CX0 5 f fd ["_law_one", "_law_other"] (spR (R_refuses K)) := by
  refine okW F sc__law_refuses (by rintro ds g Q ⟨_, x, ⟨rfl, _⟩, _⟩; rfl) fun cdv A outer s H E hr => ⟨_, PSs.nox (pss_one (ps_try_only (c := .ref (He.ga K "UnlikeBooks")) (tb := fun W => tSeq (tDrop (tCallS (spE (pre_E K) (He.ga K "UnlikeBooks")) (L2.WE W) _)) (tRet (tC (.bl false)))) (ts := fun _ _ _ => tRet (tC (.bl true))) (Wout := fun _ _ _ _ => False) rfl rfl ⟨rfl, by decide, .inl TE.g⟩ takes0 (fun W pn xe tk _ => pss_cons (ps_expr (pe_calS c_parting_E (hr.mono (by decide)) rfl (fun σ => passAt tk σ) (pa_cons (pv 0) (pa_cons (pv 1) pa_nil)))) (pss_one (ps_ret pe_bl))) (fun a oe cls d pn _ _ => pss_one (ps_ret pe_bl)))), ?_⟩
  rintro ds g Q ⟨rfl, ⟨a, b⟩, ⟨rfl, wa, wb, hl⟩, hQ⟩
  replace hQ : Q (dB true) [] := hQ
  refine ws_tryU TX ?_ hQ
  walk_at "auto"
  exact ⟨rfl, a, b, rfl, wa, wb, hl⟩
end
end Ls
set_option Elab.async false
set_option linter.all false
set_option maxRecDepth 100000
set_option maxHeartbeats 4000000
set_option autoImplicit false
namespace Ls
open PySem PySem.Spec PyProof.Rows L2 Dl
local macro_rules | `(tactic| walk_at "nof") => `(tactic| first
  | with_reducible exact Txt.n_Column_word (by assumption)
  | with_reducible exact Txt.n_Column_home (by assumption)
  | with_reducible exact Txt.n_Column_goal (by assumption)
  | with_reducible exact Txt.n_Column_rule (by assumption)
  | with_reducible exact Txt.n_Book_open_kinds (by assumption)
  | with_reducible exact Txt.n_Book_column_rows (by assumption)
  | with_reducible exact Txt.n_Book_column_table (by assumption)
  | with_reducible exact Txt.n_Book_all_checks (by assumption)
  | with_reducible exact Txt.n_Book_own_checks (by assumption)
  | with_reducible exact Txt.n_Watch_law_book (by assumption)
  | with_reducible exact Txt.n_Watch_home (by assumption)
  | with_reducible exact Txt.n_Watch_can_mark (by assumption)
  | with_reducible exact Txt.n_Watch_sorts (by assumption)
  | with_reducible exact Txt.n_KindWatch_law_book (by assumption)
  | with_reducible exact Txt.n_KindWatch_home (by assumption)
  | with_reducible exact Txt.n_KindWatch_can_mark (by assumption)
  | with_reducible exact Txt.n_KindWatch_sorts (by assumption)
  | with_reducible exact Txt.n_ColumnWatch_law_book (by assumption)
  | with_reducible exact Txt.n_ColumnWatch_home (by assumption)
  | with_reducible exact Txt.n_ColumnWatch_can_mark (by assumption)
  | with_reducible exact Txt.n_ColumnWatch_sorts (by assumption)
  | with_reducible exact Txt.n_ColumnWatch_by (by assumption)
  | with_reducible exact Txt.n_ColumnWatch_goal (by assumption)
  | with_reducible exact Txt.n_ColumnWatch_other_column (by assumption)
  | with_reducible exact Txt.n_Weaver_watch (by assumption)
  | with_reducible exact Txt.n_Weaver_way (by assumption)
  | with_reducible exact Txt.n_Weaver_made (by assumption)
  | with_reducible exact Txt.n_Weaver_held (by assumption)
  | with_reducible exact Txt.n_Weaver_chains (by assumption)
  | with_reducible exact Txt.n_Weaver_unused (by assumption))
local macro_rules | `(tactic| walk_at "cls") => `(tactic| first
  | with_reducible exact Txt.cl_Column (by assumption)
  | with_reducible exact Txt.cl_Book (by assumption)
  | with_reducible exact Txt.cl_Watch (by assumption)
  | with_reducible exact Txt.cl_KindWatch (by assumption)
  | with_reducible exact Txt.cl_ColumnWatch (by assumption)
  | with_reducible exact Txt.cl_Weaver (by assumption))
local macro_rules | `(tactic| walk_at "dlf") => `(tactic| first
  | with_reducible exact dlf_Column_word ..
  | with_reducible exact dlf_Column_home ..
  | with_reducible exact dlf_Column_goal ..
  | with_reducible exact dlf_Column_rule ..
  | with_reducible exact dlf_Book_open_kinds ..
  | with_reducible exact dlf_Book_column_rows ..
  | with_reducible exact dlf_Book_column_table ..
  | with_reducible exact dlf_Book_all_checks ..
  | with_reducible exact dlf_Book_own_checks ..
  | with_reducible exact dlf_Watch_law_book ..
  | with_reducible exact dlf_Watch_home ..
  | with_reducible exact dlf_Watch_can_mark ..
  | with_reducible exact dlf_Watch_sorts ..
  | with_reducible exact dlf_KindWatch_law_book ..
  | with_reducible exact dlf_KindWatch_home ..
  | with_reducible exact dlf_KindWatch_can_mark ..
  | with_reducible exact dlf_KindWatch_sorts ..
  | with_reducible exact dlf_ColumnWatch_law_book ..
  | with_reducible exact dlf_ColumnWatch_home ..
  | with_reducible exact dlf_ColumnWatch_can_mark ..
  | with_reducible exact dlf_ColumnWatch_sorts ..
  | with_reducible exact dlf_ColumnWatch_by ..
  | with_reducible exact dlf_ColumnWatch_goal ..
  | with_reducible exact dlf_ColumnWatch_other_column ..
  | with_reducible exact dlf_Weaver_watch ..
  | with_reducible exact dlf_Weaver_way ..
  | with_reducible exact dlf_Weaver_made ..
  | with_reducible exact dlf_Weaver_held ..
  | with_reducible exact dlf_Weaver_chains ..
  | with_reducible exact dlf_Weaver_unused ..)
local macro_rules | `(tactic| walk_at "len") => `(tactic| first | decide | (simp; done) | omega | (simp; omega) | (simp only [PySem.Str.length_append, sizeLine_eq, len_empty, len_space]; omega))
local macro_rules | `(tactic| walk_at "go1") => `(tactic| first
  | with_reducible refine ws_seq ?_
  | with_reducible refine ws_set ?_
  | with_reducible refine ws_ret ?_
  | with_reducible refine ws_if ?_
  | with_reducible refine ws_drop ?_
  | with_reducible refine ws_next ?_
  | with_reducible refine ws_retN ?_
  | with_reducible refine ws_cont ?_
  | with_reducible refine ws_brk ?_
  | with_reducible refine ws_asg ?_
  | with_reducible refine ye_var (by with_unfolding_all rfl) ?_
  | with_reducible refine ye_c ?_
  | with_reducible refine ye_op ?_
  | with_reducible refine ye_cb ?_
  | with_reducible refine ye_bm ?_
  | with_reducible refine ye_m1 ?_
  | with_reducible refine ye_if ?_
  | with_reducible refine ye_andV ?_
  | with_reducible refine ye_orV ?_
  | with_reducible refine ye_notV ?_
  | with_reducible refine ye_join ?_
  | with_reducible refine ye_fmt ?_
  | with_reducible refine ye_fld ?_
  | with_reducible refine ye_items ?_
  | with_reducible refine ye_sl ?_
  | with_reducible refine ye_tup ?_
  | with_reducible refine yo_none ?_
  | with_reducible refine yo_some ?_
  | with_reducible refine yt_B ?_
  | with_reducible refine yt_test ?_
  | with_reducible refine yt_and ?_
  | with_reducible refine yt_or ?_
  | with_reducible refine yt_not ?_
  | with_reducible refine yt_yes ?_
  | with_reducible refine ya_nil ?_
  | with_reducible refine ya_cons ?_
  | with_reducible refine ya_starA ?_
  | with_reducible refine yj_nil ?_
  | with_reducible refine yj_cons ?_
  | with_reducible refine wg_name ?_
  | with_reducible refine eqA_S ?_
  | with_reducible refine neA_S ?_
  | with_reducible refine eqA_I ?_
  | with_reducible refine neA_I ?_
  | with_reducible refine addA_I ?_
  | with_reducible refine rd_I0 ?_
  | with_reducible refine isi_SS ?_
  | with_reducible refine rc_strS ?_
  | with_reducible refine rd_isN ?_
  | with_reducible refine rd_notN ?_
  | with_reducible refine chain_I ?_
  | with_reducible refine rc_lenS (by walk_at "len") ?_
  | with_reducible refine inA_S ?_
  | with_reducible refine ws_fld1 (by with_unfolding_all rfl) (by walk_at "cls") (by walk_at "nof") (by decide +kernel) (by decide +kernel) ?_
  | with_reducible refine ⟨_, _, _, _, OV.im _ _ _, by walk_at "cls", by walk_at "nof", by walk_at "dlf", ?_⟩
  | with_reducible refine ⟨_, _, _, _, OV.mu _ _ _ _ (List.mem_singleton.mpr rfl), by walk_at "cls", by walk_at "nof", by with_unfolding_all rfl, ?_⟩
  | with_reducible refine ⟨(rfl : ([_] : G) = _), ?_⟩
  | with_reducible refine ⟨_, _, _, rfl, rfl, rfl, ?_⟩
  | refine iteT ?_
  | refine iteF ?_
  | with_reducible refine ⟨_, rfl, ?_⟩
  | with_reducible refine ⟨(by walk_at "len" : List.length _ ≤ _), ?_⟩
  | with_reducible refine ⟨(by walk_at "len" : PySem.Str.length _ ≤ _), ?_⟩)
local macro_rules | `(tactic| walk_at "go") => `(tactic| repeat walk_at "go1")
local macro_rules | `(tactic| walk_at "end") => `(tactic| first | rfl | exact ⟨rfl, rfl⟩ | exact ⟨_, rfl, rfl⟩ | exact ⟨_, _, rfl, rfl⟩)
local macro_rules | `(tactic| walk_at "auto1") => `(tactic| first | walk_at "go1" | walk_at "own" | refine iteT' (by decide +kernel) ?_ | refine iteF' (by decide +kernel) ?_ | refine iteB (fun h => ?_) (fun h => ?_))
local macro_rules | `(tactic| walk_at "auto") => `(tactic| repeat' walk_at "auto1")
local macro_rules | `(tactic| walk_at "own") => `(tactic| first
  | with_reducible refine rd_bookF ?_
  | with_reducible refine rd_bookT ?_
  | with_reducible refine ⟨_, _, OV.im _ _ _, by decide +kernel, ?_⟩
  | with_reducible refine ixA_L (.t _) (by with_unfolding_all rfl) ?_
  | with_reducible refine ixA_L (.r _ _ _) (by with_unfolding_all rfl) ?_
  | with_reducible refine wg_tupN (by repeat constructor) ⟨_, rfl, rfl, rfl, ?_⟩
  | with_reducible refine ye_lackC ?_
  | with_reducible refine inA_b2F ?_
  | with_reducible refine inA_b2T ?_
  | with_reducible refine inA_SF ?_
  | with_reducible refine inA_ST ?_
  | with_reducible refine inA_hereF (by assumption) ?_
  | with_reducible refine inA_hereT (by assumption) ?_
  | with_reducible refine ye_disp ?_
  | with_reducible refine yp_cons ?_
  | with_reducible refine yp_nil ?_
  | with_reducible refine ya_star ?_
  | refine ye_lack (by with_unfolding_all rfl) (by show 1 ≠ 0; decide) ?_
  | refine ye_methQ ?_)
section
variable {P : Program} {w : World} {K : PySem.W.Frag} {mg : Str → Option Value} {base : Heap}
theorem likeB_ne {a b : BookS} (h : ¬ (a.kk = b.kk ∧ a.cc = b.cc)) : likeB a b = false := by
  unfold likeB
  rw [← Bool.not_eq_true, Bool.and_eq_true, decide_eq_true_iff, decide_eq_true_iff]
  exact h
theorem likeB_self {a b : BookS} (h1 : a.kk = b.kk) (h2 : a.cc = b.cc) : likeB a b = true := by
  unfold likeB
  rw [decide_eq_true h1, decide_eq_true h2]; rfl
theorem sameB_self (b : BookS) : sameB b b := by
  refine ⟨fun c _ => ⟨setC (WatchS.sorts (.col b c)), beginC_in _ (sorts_all b c), fun s hs lab hl => ⟨apart_self, fun p q e1 e2 => outC_in (sorts_all b c) (okLabC_of hl) hs e1⟩⟩, fun k _ => ⟨setK, beginK_in, fun s hs lab hl => ⟨apart_self, fun p q e1 e2 => outK_in (okLab_K hl) hs e1⟩⟩⟩
theorem bookOf_perm {kk : List (Str × Bool)} {cc : List Col} {ch ch' : List Str} (h : ch'.Perm ch) : bookOf kk cc ch' = bookOf kk cc ch := by
  unfold bookOf
  congr 1
  refine List.filter_congr fun c _ => ?_
  rw [decide_eq_decide]
  exact h.mem_iff
def uS : D → Str
  | .v (.str s) => s
  | _ => ""
theorem perm_unmap {ys : List D} {ch : List Str} (h : ys.Perm (ch.map dS)) : ∃ ch2 : List Str, ys = ch2.map dS ∧ ch2.Perm ch := by
  refine ⟨ys.map uS, ?_, ?_⟩
  · rw [List.map_map]
    refine ((List.map_congr_left fun y hy => ?_).trans (List.map_id' _)).symm
    obtain ⟨c, _, rfl⟩ := List.mem_map.mp (h.mem_iff.mp hy)
    rfl
  · have := h.map uS
    rw [List.map_map, show (uS ∘ dS) = id from funext fun _ => rfl, List.map_id] at this
    exact this
theorem length_sub {kk : List (Str × Bool)} {cc : List Col} {ch : List Str} (h : ch.Sublist (lawMenu kk cc)) (h1 : kk.length ≤ 3) (h2 : cc.length ≤ 4) : ch.length ≤ 100 := by
  have := h.length_le
  unfold lawMenu at this
  rw [menu_len, List.length_map, List.length_map] at this
  omega
theorem gname_go {i : Nat} {v : V} {σ : L2.St} {H : Hp} {Q : L2.St → Hp → Prop} (h : Q (σ.set i (some v)) H) : gName i v σ H Q := h
theorem ws_start {ts : TS} {env : DEnv} {g : G} {E : DE} {M : Addr → Prop} {σ : L2.St} {H : Hp} {Z : Ends} (k : WS ts env g E) (s : Sok M env g σ H) (f : Fits M g H E Z) : ts Z σ H := k M σ H s Z f
def spLaw (K : PySem.W.Frag) : Sp := fun vs H Q _ => ∃ (a : Addr) (ns : List Int), vs = [.ref a] ∧ SqL K H a (ns.map V.int) ∧ ns.length ≤ 1000000 ∧ ∀ H', Q (.bl true) H'
theorem reps_ints {M : Addr → Prop} {H : Hp} : ∀ ns : List Int, Reps M H (ns.map dI) (ns.map V.int)
  | [] => rfl
  | n :: ns => ⟨_, _, rfl, rfl, reps_ints ns⟩
theorem cok_stream {H : Hp} {sA sB : Addr} {ns : List Int} (ne : sA ≠ sB) : Cok (fun _ => False) (strG sA sB ⟨0, 0, 0, ns⟩) (upd (upd H sB (.lst (ns.map V.int))) sA (.lst [.ref sB, .int 0, .int 0, .int 0])) := by
  refine ⟨fun a m h => ?_, ?_, fun _ z => z.elim, fun _ _ z => z⟩
  · rcases List.mem_cons.mp h with e | h
    · injection e with e1 e2
      subst e1 e2
      exact ⟨_, upd_same, _, rfl, _, _, rfl, rfl, _, _, rfl, rfl, _, _, rfl, rfl, _, _, rfl, rfl, rfl⟩
    · obtain e := List.mem_singleton.mp h
      injection e with e1 e2
      subst e1 e2
      exact ⟨.lst (ns.map V.int), by rw [upd_ne (Ne.symm ne)]; exact upd_same, _, rfl, reps_ints ns⟩
  · show [sA, sB].Nodup
    simp [ne]
abbrev N_law : List Str := ["_law_script", "_law_stream", "_law_turn", "_law_b", "_law_turned", "_law_one", "_law_two"]
theorem sc_law : FnScope N_law ["_law_script"] (defScope (top 59)) := ⟨rfl, rfl, rfl, by decide +kernel, rfl, by decide +kernel, by decide +kernel⟩
theorem ok_law {f : Addr} {fd : FuncData} (T : Txt K mg) (c__law_rules : Cal P w K mg base CX0 5 "_law_rules" ["_law_stream", "_law_many", "_law_most"] (spR R_rules)) (c__law_made : Cal P w K mg base CX0 6 "_law_made" ["_law_b"] (spR (R_made K))) (c__law_unlike : Cal P w K mg base CX0 2 "_law_unlike" ["_law_stream", "_law_b"] (spR R_unlike)) (c__law_refuses : Cal P w K mg base CX0 5 "_law_refuses" ["_law_one", "_law_other"] (spR (R_refuses K))) (c__law_mixed : Cal P w K mg base CX0 2 "_law_mixed" ["_law_stream", "_law_things"] (spR R_mixed)) (c_parting : Cal P w K mg base CX0 9 "parting" ["one", "other"] (spR (R_parting K))) (F : FunD K "law" "law" (defArgs (top 59)) (defBody (top 59)) (defScope (top 59)) [] [] f fd) : FnOk P w K mg base CX0 10 f fd ["_law_script"] (spLaw K) := by
  refine FunD.ok F sc_law (fun vs H Q E h => by obtain ⟨a, ns, rfl, _⟩ := h; rfl) fun cdv A outer s H vs Q E hr h => ⟨_, PSs.nox (pss_cons (ps_set (i := 1) sc_law.nd rfl (by first | exact Or.inl rfl | exact Or.inr rfl) (pe_lst (pa_cons (pe_callTy (k_list (K := K) rfl) (by rfl) T.f_list boot_list (pa_cons (pv 0) pa_nil)) (pa_cons pe_int (pa_cons pe_int (pa_cons pe_int pa_nil))))))
      (pss_cons (ps_for PassesOwn.never rfl (pi_range1 (by rfl) T.f_range (pa_cons pe_int pa_nil)) (pg_name (i := 2) sc_law.nd rfl (by first | exact Or.inl rfl | exact Or.inr rfl)) (pss_cons (ps_set (i := 3) sc_law.nd rfl (by first | exact Or.inl rfl | exact Or.inr rfl) (pe_cal c__law_rules (hr.mono (by decide)) rfl pass0 (pa_cons (pv 1) (pa_cons pe_int (pa_cons pe_int pa_nil)))))
      (pss_cons (ps_par (i := 5) (j := 6) rfl sc_law.nd rfl rfl (by decide) rfl rfl (pa_cons (pe_cal c__law_made (hr.mono (by decide)) rfl pass0 (pa_cons (pv 3) pa_nil)) (pa_cons (pe_cal c__law_made (hr.mono (by decide)) rfl pass0 (pa_cons (pe_cal c__law_unlike (hr.mono (by decide)) rfl pass0 (pa_cons (pv 1) (pa_cons (pv 3) pa_nil))) pa_nil)) pa_nil)) (by rfl))
      (pss_cons (ps_if (PW.pt (pw_or (pt_not (pt_val (pe_cal c__law_refuses (hr.mono (by decide)) rfl pass0 (pa_cons (pv 5) (pa_cons (pv 6) pa_nil))))) (pw_or1 (pt_not (pt_val (pe_cal c__law_refuses (hr.mono (by decide)) rfl pass0 (pa_cons (pv 6) (pa_cons (pv 5) pa_nil)))))))) (pss_one (ps_ret pe_bl)) pss_nil)
      (pss_cons (ps_set (i := 4) sc_law.nd rfl (by first | exact Or.inl rfl | exact Or.inr rfl) (pe_frz (pe_disp (pps_cons pe_str (pe_ix (k_ix (K := K) rfl (hu_of hr)) (pv 3) pe_str (fun _ _ => rfl)) (pps_cons pe_str (pe_ix (k_ix (K := K) rfl (hu_of hr)) (pv 3) pe_str (fun _ _ => rfl)) (pps_cons pe_str (pe_cal c__law_mixed (hr.mono (by decide)) rfl pass0 (pa_cons (pv 1) (pa_cons (pe_ix (k_ix (K := K) rfl (hu_of hr)) (pv 3) pe_str (fun _ _ => rfl)) pa_nil))) pps_nil))) (by rfl) (by rfl) (fun z => by cases z) (by decide))))
      (pss_one (ps_if (pt_cmpR op_notNn (pe_cal c_parting (hr.mono (by decide)) rfl pass0 (pa_cons (pv 5) (pa_cons (pe_cal c__law_made (hr.mono (by decide)) rfl pass0 (pa_cons (pv 4) pa_nil)) pa_nil))) pe_non (nomark _)) (pss_one (ps_ret pe_bl)) pss_nil)))))))
      (pss_one (ps_ret pe_bl)))), ?_⟩
  obtain ⟨a, ns, rfl, hS, hl, hQ⟩ := h
  refine ⟨_, rfl, a, ns.map V.int, rfl, .inl hS, fun sB hB => ⟨by rw [sizeLine_eq]; exact (by decide : 4 ≤ 16777216), fun sA hA => ?_⟩⟩
  have ne : sA ≠ sB := fun e => by
    subst e
    rw [upd_same] at hA
    cases hA
  show gName 1 (.ref sA) _ _ _
  refine gname_go ?_
  dsimp only
  refine ws_start (M := fun _ => False) (env := [some (.v (.ref a)), some (.v (.ref sA)), none, none, none, none, none]) (g := strG sA sB ⟨0, 0, 0, ns⟩) (E := ⟨fun _ _ => False, fun d _ => d = dB true, fun _ _ => False, fun _ _ => False⟩) ?key ?sok ⟨fun _ _ _ _ z => z.elim, fun d g' v H' q t' c' r' => ?ret, fun _ _ _ _ z => z.elim, fun _ _ _ _ z => z.elim⟩
  case ret =>
    subst q
    have e : v = .bl true := r'
    subst e
    exact hQ H'
  case sok =>
    refine { toCok := cok_stream ne, len := rfl, slots := fun i d hd => ?_ }
    match i with
    | 0 => cases hd; exact ⟨_, rfl, rfl⟩
    | 1 => cases hd; exact ⟨_, rfl, rfl⟩
    | 2 => cases hd
    | 3 => cases hd
    | 4 => cases hd
    | 5 => cases hd
    | 6 => cases hd
    | i + 7 => cases hd
  walk_at "auto"
  refine ws_for (yi_range1 ?_)
  walk_at "auto"
  refine ⟨by decide, fun i e gg => ∃ s' x2 x3 x4 x5 x6, e = [some (.v (.ref a)), some (.v (.ref sA)), x2, x3, x4, x5, x6] ∧ gg = strG sA sB s' ∧ StOk (1000 * i) s', ⟨⟨0, 0, 0, ns⟩, none, none, none, none, none, rfl, rfl, ⟨Int.le_refl _, Int.le_refl _, Int.le_refl _, Int.le_refl _, by show (0 : Int) < 2147483647; decide⟩⟩, fun _ _ _ _ c hc => by simp at hc, ?_, ?_⟩
  · rintro i d e gg hd ⟨s', x2, x3, x4, x5, x6, rfl, rfl, ok⟩
    obtain ⟨j, hj, rfl⟩ := map_get hd
    have hi : i < 3 := by
      have := (List.getElem?_eq_some_iff.mp hj).1
      simpa using this
    walk_at "auto"
    refine ye_call ?_
    walk_at "auto"
    refine ⟨_, [], (List.append_nil _).symm, ⟨(sA, sB, s', 1000 * i), ⟨rfl, rfl, ne, ok, by show 1000 * i < 600000; omega⟩, ?_⟩⟩
    rintro d g' ⟨kk, cc, ch, s2, rfl, wf, hk3, hk1, hc1, hc4, hsub, rfl, ok2⟩
    rw [List.append_nil]
    replace ok2 : StOk (1000 * i + 300) s2 := ok2
    have hch : ∀ c ∈ ch, c ∈ lawMenu kk cc := fun c hc => hsub.subset hc
    have hchl := length_sub hsub hk3 hc4
    walk_at "auto"
    show WS _ _ (strG sA sB s2) _
    refine ws_par ?_
    walk_at "auto"
    refine ye_callQ ?_
    walk_at "auto"
    refine ⟨(kk, cc, ch), ⟨rfl, wf, hch⟩, ?_⟩
    walk_at "auto"
    refine ye_callQ ?_
    walk_at "auto"
    refine ye_call ?_
    walk_at "auto"
    refine ⟨_, [], (List.append_nil _).symm, ⟨(sA, sB, s2, 1000 * i + 300, kk, cc, ch), ⟨rfl, rfl, ne, ok2, by show 1000 * i + 300 < 700000; omega, wf, hk3, hk1, hc1, hc4, hch, hchl⟩, ?_⟩⟩
    rintro d g' ⟨kk', cc', ch', s3, rfl, wf', hne, hch', rfl, ok3⟩
    rw [List.append_nil]
    replace ok3 : StOk (1000 * i + 300 + 2) s3 := ok3
    replace hne : ¬ (kk = kk' ∧ cc = cc') := hne
    walk_at "auto"
    refine ⟨(kk', cc', ch'), ⟨rfl, wf', hch'⟩, ?_⟩
    walk_at "auto"
    refine ⟨_, _, rfl, ?_⟩
    show WS _ _ (strG sA sB s3) _
    generalize hG : strG sA sB s3 = GG
    refine ws_seq (ws_if ?_)
    walk_at "auto"
    refine ye_callQ ?_
    walk_at "auto"
    refine ⟨(bookOf kk cc ch, bookOf kk' cc' ch'), ⟨rfl, wf, wf', likeB_ne hne⟩, ?_⟩
    walk_at "auto"
    refine ye_callQ ?_
    walk_at "auto"
    refine ⟨(bookOf kk' cc' ch', bookOf kk cc ch), ⟨rfl, wf', wf, likeB_ne fun h => hne ⟨h.1.symm, h.2.symm⟩⟩, ?_⟩
    walk_at "auto"
    subst hG
    refine ixA_D (.im _ _) dlb_k ?_
    walk_at "auto"
    refine ixA_D (.im _ _) dlb_c ?_
    walk_at "auto"
    refine ye_call ?_
    walk_at "auto"
    refine ixA_D (.im _ _) dlb_h ?_
    walk_at "auto"
    have hml : (ch.map dS).length ≤ 100 := by rw [List.length_map]; exact hchl
    refine ⟨_, [], (List.append_nil _).symm, ⟨(sA, sB, s3, 1000 * i + 300 + 2, ch.map dS), ⟨rfl, rfl, ne, ok3, by show 1000 * i + 300 + 2 < 900000; omega, by show (ch.map dS).length ≤ 1000; omega⟩, ?_⟩⟩
    rintro d g' ⟨ys, s4, rfl, hperm, rfl, ok4⟩
    rw [List.append_nil]
    replace ok4 : StOk (1000 * i + 300 + 2 + (ch.map dS).length) s4 := ok4
    obtain ⟨ch2, rfl, hp2⟩ := perm_unmap hperm
    have hch2 : ∀ c ∈ ch2, c ∈ lawMenu kk cc := fun c hc => hch c (hp2.mem_iff.mp hc)
    walk_at "auto"
    refine ⟨lawKeys, [dKinds kk, .lst (cc.map dRow), .lst (ch2.map dS)], rfl, by decide, rfl, by decide, ?_⟩
    show WS _ _ (strG sA sB s4) _
    generalize hG : strG sA sB s4 = GG
    refine ws_if ?_
    walk_at "auto"
    refine ye_callQ ?_
    walk_at "auto"
    refine ye_callQ ?_
    walk_at "auto"
    refine ⟨(kk, cc, ch2), ⟨rfl, wf, hch2⟩, ?_⟩
    walk_at "auto"
    refine ⟨(bookOf kk cc ch, bookOf kk cc ch2), ⟨rfl, wf, wf, likeB_self rfl rfl, ?_⟩, ?_⟩
    · rw [bookOf_perm hp2]
      exact sameB_self _
    walk_at "auto"
    exact ⟨s4, _, _, _, _, _, rfl, hG.symm, ok4.le (by omega)⟩
  · rintro e gg ⟨s', x2, x3, x4, x5, x6, rfl, rfl, ok⟩
    walk_at "auto"
    rfl
end
end Ls
set_option Elab.async false
set_option linter.all false
set_option maxRecDepth 100000
set_option maxHeartbeats 4000000
set_option autoImplicit false
namespace Ls
open PySem PySem.Spec PyProof.Rows L2 Dl He
theorem sup_ok {K : PySem.W.Frag} (e : supV K = supVal) (h1 : supB K = true) (h2 : sup2B K = true) : ∃ fd, SupD LP K "__init__" "ColumnWatch.__init__" (defArgs (inClass (htop 33) 0)) (defBody (inClass (htop 33) 0)) (defScope (inClass (htop 33) 0)) (He.ga K "ColumnWatch") (He.ma K (He.ga K "Watch") "__init__") (He.ma K (He.ga K "ColumnWatch") "__init__") fd ∧ Binds K fd ["self", "book", "column"] [] := by
  obtain ⟨a1, h2⟩ := ba h2
  obtain ⟨a2, h2⟩ := ba h2
  obtain ⟨a3, h2⟩ := ba h2
  obtain ⟨a4, h2⟩ := ba h2
  obtain ⟨a5, a6⟩ := ba h2
  unfold supV at e
  unfold supB at h1
  cases q : K.lookup (He.ma K (He.ga K "ColumnWatch") "__init__") with
  | none => rw [q] at h1; cases h1
  | some o =>
    obtain ⟨oc, od, dt, osl⟩ := o
    rw [q] at h1 e
    cases dt with
    | func fd =>
      obtain ⟨n1, n2, n3, n4, n5, n6, n7, n8, n9, n10, n11, n12, n13, n14, n15⟩ := fd
      have e2 : (some (n1, n2, n3, n4, n5, n6, n7.map (·.1), n8, n15) : SupV) = supVal := e
      unfold supVal at e2
      simp only [Option.some.injEq, Prod.mk.injEq] at e2
      obtain ⟨g1, g2, g3, g4, g5, g6, g7, g8, g9⟩ := e2
      subst g1 g2 g3 g4 g5 g6 g8 g9
      obtain ⟨k1, k2⟩ := ba (show (codeB K n13 && cellB K n7) = true from h1)
      obtain ⟨cda, rfl, k3, k4⟩ := codeB_ok k1
      obtain ⟨x, cc, rfl, k5⟩ := cellB_ok k2
      have g7' : [x] = ([("__class__" : Str)] : List Str) := g7
      injection g7' with g7'
      subst g7'
      refine ⟨_, ⟨⟨cc, cda, oc, od, _, _, _, _, _, _, osl, rfl, q, k3, k4, k5⟩, Option.isSome_iff_exists.mp a1, of_decide_eq_true a2, eqO_ok a3, of_decide_eq_true a4, a5, eqO_ok a6, by decide +kernel⟩, ?_⟩
      exact Binds.all fun us hl => match us, hl with | [_, _, _], _ => rfl
    | _ => cases h1
theorem fn_lift {P : Program} {w : World} {K : PySem.W.Frag} {mg : Str → Option Value} {base : Heap} {CX : CXT} {k1 k : Nat} {f : Addr} {fd : FuncData} {ps : List Str} {sp : Sp} (F1 : FnOk P w K mg base CX k1 f fd ps sp) (h1 : k1 ≤ k) : FnOk P w K mg base CX k f fd ps sp := by
  refine ⟨F1.len, fun A outer s H args us vs Q E hr e0 hb rv h => F1.run A outer s H args us vs Q E (hr.mono h1) e0 hb rv h⟩
theorem facts {w : World} {K : PySem.W.Frag} {h : Heap} {mg : Str → Option Value} {f : Addr} (X : K.In h) (G : h.Ns mainGlobals mg) (hfa : mg ("law" : Str) = some (.ref f)) (S : SaysY K) :
    ∃ fd : FuncData, (∀ (s : Shared) (v : Value), BindsTo s fd ⟨[v], []⟩ [("_law_script", v)]) ∧ ∀ base : Heap, K.In base → base.Ns mainGlobals mg → FnOk LP w K mg base CX0 10 f fd ["_law_script"] (spLaw K) := by
  have c := S.d
  obtain ⟨e1, e2⟩ := He.ba S.ex
  obtain ⟨e2, e3⟩ := He.ba e2
  obtain ⟨e3, e4⟩ := He.ba e3
  obtain ⟨fdS, FS, bS⟩ := sup_ok S.sup e3 e4
  obtain ⟨fd__law_draw, F__law_draw⟩ : ∃ fd, FunD K "_law_draw" "_law_draw" (defArgs (top 47)) (defBody (top 47)) (defScope (top 47)) [] [] (He.ga K "_law_draw") fd := c.def_ 0 rfl
  obtain ⟨fd__law_fresh, F__law_fresh⟩ : ∃ fd, FunD K "_law_fresh" "_law_fresh" (defArgs (top 50)) (defBody (top 50)) (defScope (top 50)) [] [] (He.ga K "_law_fresh") fd := c.def_ 1 rfl
  obtain ⟨fd__law_names, F__law_names⟩ : ∃ fd, FunD K "_law_names" "_law_names" (defArgs (top 51)) (defBody (top 51)) (defScope (top 51)) [] [] (He.ga K "_law_names") fd := c.def_ 2 rfl
  obtain ⟨fd__law_pick, F__law_pick⟩ : ∃ fd, FunD K "_law_pick" "_law_pick" (defArgs (top 48)) (defBody (top 48)) (defScope (top 48)) [] [] (He.ga K "_law_pick") fd := c.def_ 3 rfl
  obtain ⟨fd__law_shape, F__law_shape⟩ : ∃ fd, FunD K "_law_shape" "_law_shape" (defArgs (top 52)) (defBody (top 52)) (defScope (top 52)) [] [] (He.ga K "_law_shape") fd := c.def_ 4 rfl
  obtain ⟨fd__law_all_checks, F__law_all_checks⟩ : ∃ fd, FunD K "_law_all_checks" "_law_all_checks" (defArgs (top 53)) (defBody (top 53)) (defScope (top 53)) [] [] (He.ga K "_law_all_checks") fd := c.def_ 5 rfl
  obtain ⟨fd__law_checked, F__law_checked⟩ : ∃ fd, FunD K "_law_checked" "_law_checked" (defArgs (top 54)) (defBody (top 54)) (defScope (top 54)) [] [] (He.ga K "_law_checked") fd := c.def_ 6 rfl
  obtain ⟨fd__law_rules, F__law_rules⟩ : ∃ fd, FunD K "_law_rules" "_law_rules" (defArgs (top 55)) (defBody (top 55)) (defScope (top 55)) [] [] (He.ga K "_law_rules") fd := c.def_ 7 rfl
  obtain ⟨fd_is_name, F_is_name⟩ : ∃ fd, FunD K "is_name" "is_name" (defArgs (top 12)) (defBody (top 12)) (defScope (top 12)) [] [] (He.ga K "is_name") fd := c.def_ 8 rfl
  obtain ⟨fd_check_fresh, F_check_fresh⟩ : ∃ fd, FunD K "check_fresh" "check_fresh" (defArgs (top 18)) (defBody (top 18)) (defScope (top 18)) [] [] (He.ga K "check_fresh") fd := c.def_ 9 rfl
  obtain ⟨fd_kinds_of, F_kinds_of⟩ : ∃ fd, FunD K "kinds_of" "kinds_of" (defArgs (top 19)) (defBody (top 19)) (defScope (top 19)) [] [] (He.ga K "kinds_of") fd := c.def_ 10 rfl
  obtain ⟨fd_stands_in, F_stands_in⟩ : ∃ fd, FunD K "stands_in" "stands_in" (defArgs (top 13)) (defBody (top 13)) (defScope (top 13)) [] [] (He.ga K "stands_in") fd := c.def_ 11 rfl
  obtain ⟨fd_column_rows_of, F_column_rows_of⟩ : ∃ fd, FunD K "column_rows_of" "column_rows_of" (defArgs (top 20)) (defBody (top 20)) (defScope (top 20)) [] [] (He.ga K "column_rows_of") fd := c.def_ 12 rfl
  obtain ⟨fd_Column___init__, F_Column___init__⟩ : ∃ fd, FunD K "__init__" "Column.__init__" (defArgs (inClass (top 17) 0)) (defBody (inClass (top 17) 0)) (defScope (inClass (top 17) 0)) [] [] (He.ma K (He.ga K "Column") "__init__") fd := c.def_ 13 rfl
  obtain ⟨fd_menu_of, F_menu_of⟩ : ∃ fd, FunD K "menu_of" "menu_of" (defArgs (top 22)) (defBody (top 22)) (defScope (top 22)) [] [] (He.ga K "menu_of") fd := c.def_ 14 rfl
  obtain ⟨fd_checks_of, F_checks_of⟩ : ∃ fd, FunD K "checks_of" "checks_of" (defArgs (top 21)) (defBody (top 21)) (defScope (top 21)) [] [] (He.ga K "checks_of") fd := c.def_ 15 rfl
  obtain ⟨fd_Book___init__, F_Book___init__⟩ : ∃ fd, FunD K "__init__" "Book.__init__" (defArgs (inClass (top 23) 0)) (defBody (inClass (top 23) 0)) (defScope (inClass (top 23) 0)) [(Dv.v K (.adr (He.dflAt ("Book", some "__init__") 0))), (Dv.v K (.adr (He.dflAt ("Book", some "__init__") 1)))] [] (He.ma K (He.ga K "Book") "__init__") fd := c.def_ 16 rfl
  obtain ⟨fd__law_made, F__law_made⟩ : ∃ fd, FunD K "_law_made" "_law_made" (defArgs (top 56)) (defBody (top 56)) (defScope (top 56)) [] [] (He.ga K "_law_made") fd := c.def_ 17 rfl
  obtain ⟨fd__law_unlike, F__law_unlike⟩ : ∃ fd, FunD K "_law_unlike" "_law_unlike" (defArgs (top 57)) (defBody (top 57)) (defScope (top 57)) [] [] (He.ga K "_law_unlike") fd := c.def_ 18 rfl
  obtain ⟨fd_are_like, F_are_like⟩ : ∃ fd, FunD K "are_like" "are_like" (defArgs (top 24)) (defBody (top 24)) (defScope (top 24)) [] [] (He.ga K "are_like") fd := c.def_ 19 rfl
  obtain ⟨fd_check_like, F_check_like⟩ : ∃ fd, FunD K "check_like" "check_like" (defArgs (top 25)) (defBody (top 25)) (defScope (top 25)) [] [] (He.ga K "check_like") fd := c.def_ 20 rfl
  obtain ⟨fd_parting, F_parting⟩ : ∃ fd, FunD K "parting" "parting" (defArgs (top 45)) (defBody (top 45)) (defScope (top 45)) [] [] (He.ga K "parting") fd := c.def_ 21 rfl
  obtain ⟨fd__law_refuses, F__law_refuses⟩ : ∃ fd, FunD K "_law_refuses" "_law_refuses" (defArgs (top 58)) (defBody (top 58)) (defScope (top 58)) [] [] (He.ga K "_law_refuses") fd := c.def_ 22 rfl
  obtain ⟨fd__law_mixed, F__law_mixed⟩ : ∃ fd, FunD K "_law_mixed" "_law_mixed" (defArgs (top 49)) (defBody (top 49)) (defScope (top 49)) [] [] (He.ga K "_law_mixed") fd := c.def_ 23 rfl
  obtain ⟨fd_ColumnWatch_first_other, F_ColumnWatch_first_other⟩ : ∃ fd, FunD K "first_other" "ColumnWatch.first_other" (defArgs (inClass (top 33) 4)) (defBody (inClass (top 33) 4)) (defScope (inClass (top 33) 4)) [] [] (He.ma K (He.ga K "ColumnWatch") "first_other") fd := c.def_ 24 rfl
  obtain ⟨fd_Book_markable, F_Book_markable⟩ : ∃ fd, FunD K "markable" "Book.markable" (defArgs (inClass (top 23) 6)) (defBody (inClass (top 23) 6)) (defScope (inClass (top 23) 6)) [] [] (He.ma K (He.ga K "Book") "markable") fd := c.def_ 25 rfl
  obtain ⟨fd_Watch___init__, F_Watch___init__⟩ : ∃ fd, FunD K "__init__" "Watch.__init__" (defArgs (inClass (top 31) 0)) (defBody (inClass (top 31) 0)) (defScope (inClass (top 31) 0)) [] [] (He.ma K (He.ga K "Watch") "__init__") fd := c.def_ 26 rfl
  obtain ⟨fd_KindWatch___init__, F_KindWatch___init__⟩ : ∃ fd, FunD K "__init__" "Watch.__init__" (defArgs (inClass (top 31) 0)) (defBody (inClass (top 31) 0)) (defScope (inClass (top 31) 0)) [] [] (He.ma K (He.ga K "KindWatch") "__init__") fd := c.def_ 27 rfl
  obtain ⟨fd_watches_of, F_watches_of⟩ : ∃ fd, FunD K "watches_of" "watches_of" (defArgs (top 44)) (defBody (top 44)) (defScope (top 44)) [] [] (He.ga K "watches_of") fd := c.def_ 28 rfl
  obtain ⟨fd_ColumnWatch_begin, F_ColumnWatch_begin⟩ : ∃ fd, FunD K "begin" "ColumnWatch.begin" (defArgs (inClass (top 33) 1)) (defBody (inClass (top 33) 1)) (defScope (inClass (top 33) 1)) [] [] (He.ma K (He.ga K "ColumnWatch") "begin") fd := c.def_ 29 rfl
  obtain ⟨fd_ColumnWatch_list_labels, F_ColumnWatch_list_labels⟩ : ∃ fd, FunD K "list_labels" "Watch.list_labels" (defArgs (inClass (top 31) 6)) (defBody (inClass (top 31) 6)) (defScope (inClass (top 31) 6)) [] [] (He.ma K (He.ga K "ColumnWatch") "list_labels") fd := c.def_ 30 rfl
  obtain ⟨fd_ColumnWatch_labels, F_ColumnWatch_labels⟩ : ∃ fd, FunD K "labels" "ColumnWatch.labels" (defArgs (inClass (top 33) 2)) (defBody (inClass (top 33) 2)) (defScope (inClass (top 33) 2)) [] [] (He.ma K (He.ga K "ColumnWatch") "labels") fd := c.def_ 31 rfl
  obtain ⟨fd_Book___contains__, F_Book___contains__⟩ : ∃ fd, FunD K "__contains__" "Book.__contains__" (defArgs (inClass (top 23) 9)) (defBody (inClass (top 23) 9)) (defScope (inClass (top 23) 9)) [] [] (He.ma K (He.ga K "Book") "__contains__") fd := c.def_ 32 rfl
  obtain ⟨fd_ColumnWatch_may_put, F_ColumnWatch_may_put⟩ : ∃ fd, FunD K "may_put" "Watch.may_put" (defArgs (inClass (top 31) 3)) (defBody (inClass (top 31) 3)) (defScope (inClass (top 31) 3)) [] [] (He.ma K (He.ga K "ColumnWatch") "may_put") fd := c.def_ 33 rfl
  obtain ⟨fd_ColumnWatch_has, F_ColumnWatch_has⟩ : ∃ fd, FunD K "has" "Watch.has" (defArgs (inClass (top 31) 1)) (defBody (inClass (top 31) 1)) (defScope (inClass (top 31) 1)) [] [] (He.ma K (He.ga K "ColumnWatch") "has") fd := c.def_ 34 rfl
  obtain ⟨fd_ColumnWatch_may_refer, F_ColumnWatch_may_refer⟩ : ∃ fd, FunD K "may_refer" "ColumnWatch.may_refer" (defArgs (inClass (top 33) 6)) (defBody (inClass (top 33) 6)) (defScope (inClass (top 33) 6)) [] [] (He.ma K (He.ga K "ColumnWatch") "may_refer") fd := c.def_ 35 rfl
  obtain ⟨fd_ColumnWatch_put_behind, F_ColumnWatch_put_behind⟩ : ∃ fd, FunD K "put_behind" "ColumnWatch.put_behind" (defArgs (inClass (top 33) 7)) (defBody (inClass (top 33) 7)) (defScope (inClass (top 33) 7)) [] [] (He.ma K (He.ga K "ColumnWatch") "put_behind") fd := c.def_ 36 rfl
  obtain ⟨fd_ColumnWatch_turned, F_ColumnWatch_turned⟩ : ∃ fd, FunD K "turned" "ColumnWatch.turned" (defArgs (inClass (top 33) 8)) (defBody (inClass (top 33) 8)) (defScope (inClass (top 33) 8)) [] [] (He.ma K (He.ga K "ColumnWatch") "turned") fd := c.def_ 37 rfl
  obtain ⟨fd_ColumnWatch_with_letter, F_ColumnWatch_with_letter⟩ : ∃ fd, FunD K "with_letter" "Watch.with_letter" (defArgs (inClass (top 31) 4)) (defBody (inClass (top 31) 4)) (defScope (inClass (top 31) 4)) [] [] (He.ma K (He.ga K "ColumnWatch") "with_letter") fd := c.def_ 38 rfl
  obtain ⟨fd_ColumnWatch_fitting, F_ColumnWatch_fitting⟩ : ∃ fd, FunD K "fitting" "ColumnWatch.fitting" (defArgs (inClass (top 33) 10)) (defBody (inClass (top 33) 10)) (defScope (inClass (top 33) 10)) [] [] (He.ma K (He.ga K "ColumnWatch") "fitting") fd := c.def_ 39 rfl
  obtain ⟨fd_ColumnWatch_looked, F_ColumnWatch_looked⟩ : ∃ fd, FunD K "looked" "ColumnWatch.looked" (defArgs (inClass (top 33) 11)) (defBody (inClass (top 33) 11)) (defScope (inClass (top 33) 11)) [] [] (He.ma K (He.ga K "ColumnWatch") "looked") fd := c.def_ 40 rfl
  obtain ⟨fd_ColumnWatch_done_behind, F_ColumnWatch_done_behind⟩ : ∃ fd, FunD K "done_behind" "ColumnWatch.done_behind" (defArgs (inClass (top 33) 12)) (defBody (inClass (top 33) 12)) (defScope (inClass (top 33) 12)) [] [] (He.ma K (He.ga K "ColumnWatch") "done_behind") fd := c.def_ 41 rfl
  obtain ⟨fd_ColumnWatch_may_mark, F_ColumnWatch_may_mark⟩ : ∃ fd, FunD K "may_mark" "Watch.may_mark" (defArgs (inClass (top 31) 2)) (defBody (inClass (top 31) 2)) (defScope (inClass (top 31) 2)) [] [] (He.ma K (He.ga K "ColumnWatch") "may_mark") fd := c.def_ 42 rfl
  obtain ⟨fd_ColumnWatch_marked_behind, F_ColumnWatch_marked_behind⟩ : ∃ fd, FunD K "marked_behind" "ColumnWatch.marked_behind" (defArgs (inClass (top 33) 9)) (defBody (inClass (top 33) 9)) (defScope (inClass (top 33) 9)) [] [] (He.ma K (He.ga K "ColumnWatch") "marked_behind") fd := c.def_ 43 rfl
  obtain ⟨fd_lacking, F_lacking⟩ : ∃ fd, FunD K "lacking" "lacking" (defArgs (top 30)) (defBody (top 30)) (defScope (top 30)) [] [] (He.ga K "lacking") fd := c.def_ 44 rfl
  obtain ⟨fd_ColumnWatch_outcome, F_ColumnWatch_outcome⟩ : ∃ fd, FunD K "outcome" "ColumnWatch.outcome" (defArgs (inClass (top 33) 5)) (defBody (inClass (top 33) 5)) (defScope (inClass (top 33) 5)) [] [] (He.ma K (He.ga K "ColumnWatch") "outcome") fd := c.def_ 45 rfl
  obtain ⟨fd_are_apart, F_are_apart⟩ : ∃ fd, FunD K "are_apart" "are_apart" (defArgs (top 37)) (defBody (top 37)) (defScope (top 37)) [] [] (He.ga K "are_apart") fd := c.def_ 46 rfl
  obtain ⟨fd_way_apart, F_way_apart⟩ : ∃ fd, FunD K "way_apart" "way_apart" (defArgs (top 38)) (defBody (top 38)) (defScope (top 38)) [] [] (He.ga K "way_apart") fd := c.def_ 47 rfl
  obtain ⟨fd_KindWatch_begin, F_KindWatch_begin⟩ : ∃ fd, FunD K "begin" "KindWatch.begin" (defArgs (inClass (top 32) 0)) (defBody (inClass (top 32) 0)) (defScope (inClass (top 32) 0)) [] [] (He.ma K (He.ga K "KindWatch") "begin") fd := c.def_ 48 rfl
  obtain ⟨fd_KindWatch_list_labels, F_KindWatch_list_labels⟩ : ∃ fd, FunD K "list_labels" "Watch.list_labels" (defArgs (inClass (top 31) 6)) (defBody (inClass (top 31) 6)) (defScope (inClass (top 31) 6)) [] [] (He.ma K (He.ga K "KindWatch") "list_labels") fd := c.def_ 49 rfl
  obtain ⟨fd_KindWatch_labels, F_KindWatch_labels⟩ : ∃ fd, FunD K "labels" "KindWatch.labels" (defArgs (inClass (top 32) 1)) (defBody (inClass (top 32) 1)) (defScope (inClass (top 32) 1)) [] [] (He.ma K (He.ga K "KindWatch") "labels") fd := c.def_ 50 rfl
  obtain ⟨fd_KindWatch_may_put, F_KindWatch_may_put⟩ : ∃ fd, FunD K "may_put" "Watch.may_put" (defArgs (inClass (top 31) 3)) (defBody (inClass (top 31) 3)) (defScope (inClass (top 31) 3)) [] [] (He.ma K (He.ga K "KindWatch") "may_put") fd := c.def_ 51 rfl
  obtain ⟨fd_KindWatch_may_mark, F_KindWatch_may_mark⟩ : ∃ fd, FunD K "may_mark" "Watch.may_mark" (defArgs (inClass (top 31) 2)) (defBody (inClass (top 31) 2)) (defScope (inClass (top 31) 2)) [] [] (He.ma K (He.ga K "KindWatch") "may_mark") fd := c.def_ 52 rfl
  obtain ⟨fd_KindWatch_with_letter, F_KindWatch_with_letter⟩ : ∃ fd, FunD K "with_letter" "Watch.with_letter" (defArgs (inClass (top 31) 4)) (defBody (inClass (top 31) 4)) (defScope (inClass (top 31) 4)) [] [] (He.ma K (He.ga K "KindWatch") "with_letter") fd := c.def_ 53 rfl
  obtain ⟨fd_KindWatch_has, F_KindWatch_has⟩ : ∃ fd, FunD K "has" "Watch.has" (defArgs (inClass (top 31) 1)) (defBody (inClass (top 31) 1)) (defScope (inClass (top 31) 1)) [] [] (He.ma K (He.ga K "KindWatch") "has") fd := c.def_ 54 rfl
  obtain ⟨fd_KindWatch_outcome, F_KindWatch_outcome⟩ : ∃ fd, FunD K "outcome" "KindWatch.outcome" (defArgs (inClass (top 32) 3)) (defBody (inClass (top 32) 3)) (defScope (inClass (top 32) 3)) [] [] (He.ma K (He.ga K "KindWatch") "outcome") fd := c.def_ 55 rfl
  obtain ⟨fd_law, F_law⟩ : ∃ fd, FunD K "law" "law" (defArgs (top 59)) (defBody (top 59)) (defScope (top 59)) [] [] (He.ga K "law") fd := c.def_ 56 rfl
  have e := hfa.symm.trans (He.glo_ok X G (c.fact 118 (f := .glo "law") rfl))
  cases e
  have T : Txt K mg := ⟨He.free_ok X G (c.fact 0 (f := .free "isinstance") rfl),
    He.free_ok X G (c.fact 1 (f := .free "len") rfl),
    He.free_ok X G (c.fact 2 (f := .free "all") rfl),
    He.free_ok X G (c.fact 3 (f := .free "any") rfl),
    He.free_ok X G (c.fact 4 (f := .free "str") rfl),
    He.free_ok X G (c.fact 5 (f := .free "int") rfl),
    He.free_ok X G (c.fact 6 (f := .free "bool") rfl),
    He.free_ok X G (c.fact 7 (f := .free "list") rfl),
    He.free_ok X G (c.fact 8 (f := .free "tuple") rfl),
    He.free_ok X G (c.fact 9 (f := .free "dict") rfl),
    He.free_ok X G (c.fact 10 (f := .free "range") rfl),
    He.free_ok X G (c.fact 11 (f := .free "zip") rfl),
    He.free_ok X G (c.fact 12 (f := .free "enumerate") rfl),
    He.free_ok X G (c.fact 13 (f := .free "sorted") rfl),
    He.free_ok X G (c.fact 14 (f := .free "min") rfl),
    He.free_ok X G (c.fact 15 (f := .free "reversed") rfl),
    He.free_ok X G (c.fact 16 (f := .free "super") rfl),
    He.str_ok X G (c.fact 17 (f := .str "FALL" "fall") rfl),
    He.str_ok X G (c.fact 18 (f := .str "CLEAR" "clear") rfl),
    He.str_ok X G (c.fact 19 (f := .str "STRUCK" "strike") rfl),
    He.str_ok X G (c.fact 20 (f := .str "LETTERS" "abcdefghijklmnopqrstuvwxyz") rfl),
    (He.glo_ok X G (c.fact 21 (f := .glo "HERE") rfl)),
    fun H => He.tupB_ok (vs := [.str "plain", .str "marked", .str "other"]) e1 H,
    He.cls_ok (c.fact 22 (f := .cls "Column") rfl),
    He.cls_ok (c.fact 23 (f := .cls "Book") rfl),
    He.cls_ok (c.fact 24 (f := .cls "Watch") rfl),
    He.cls_ok (c.fact 25 (f := .cls "KindWatch") rfl),
    He.cls_ok (c.fact 26 (f := .cls "ColumnWatch") rfl),
    He.cls_ok (c.fact 27 (f := .cls "Weaver") rfl),
    He.noat_ok (c.fact 28 (f := .noat "Column" "word") rfl),
    He.noat_ok (c.fact 29 (f := .noat "Column" "home") rfl),
    He.noat_ok (c.fact 30 (f := .noat "Column" "goal") rfl),
    He.noat_ok (c.fact 31 (f := .noat "Column" "rule") rfl),
    He.noat_ok (c.fact 32 (f := .noat "Book" "open_kinds") rfl),
    He.noat_ok (c.fact 33 (f := .noat "Book" "column_rows") rfl),
    He.noat_ok (c.fact 34 (f := .noat "Book" "column_table") rfl),
    He.noat_ok (c.fact 35 (f := .noat "Book" "all_checks") rfl),
    He.noat_ok (c.fact 36 (f := .noat "Book" "own_checks") rfl),
    He.noat_ok (c.fact 37 (f := .noat "Watch" "law_book") rfl),
    He.noat_ok (c.fact 38 (f := .noat "Watch" "home") rfl),
    He.noat_ok (c.fact 39 (f := .noat "Watch" "can_mark") rfl),
    He.noat_ok (c.fact 40 (f := .noat "Watch" "sorts") rfl),
    He.noat_ok (c.fact 41 (f := .noat "KindWatch" "law_book") rfl),
    He.noat_ok (c.fact 42 (f := .noat "KindWatch" "home") rfl),
    He.noat_ok (c.fact 43 (f := .noat "KindWatch" "can_mark") rfl),
    He.noat_ok (c.fact 44 (f := .noat "KindWatch" "sorts") rfl),
    He.noat_ok (c.fact 45 (f := .noat "ColumnWatch" "by") rfl),
    He.noat_ok (c.fact 46 (f := .noat "ColumnWatch" "goal") rfl),
    He.noat_ok (c.fact 47 (f := .noat "ColumnWatch" "other_column") rfl),
    He.noat_ok (c.fact 48 (f := .noat "ColumnWatch" "sorts") rfl),
    He.noat_ok (c.fact 49 (f := .noat "ColumnWatch" "law_book") rfl),
    He.noat_ok (c.fact 50 (f := .noat "ColumnWatch" "home") rfl),
    He.noat_ok (c.fact 51 (f := .noat "ColumnWatch" "can_mark") rfl),
    He.noat_ok (c.fact 52 (f := .noat "Weaver" "watch") rfl),
    He.noat_ok (c.fact 53 (f := .noat "Weaver" "way") rfl),
    He.noat_ok (c.fact 54 (f := .noat "Weaver" "made") rfl),
    He.noat_ok (c.fact 55 (f := .noat "Weaver" "held") rfl),
    He.noat_ok (c.fact 56 (f := .noat "Weaver" "chains") rfl),
    He.noat_ok (c.fact 57 (f := .noat "Weaver" "unused") rfl)⟩
  have TE : TxtE K mg := ⟨(He.glo_ok X G (c.fact 119 (f := .glo "UnlikeBooks") rfl)), (He.exc_ok (c.fact 120 (f := .exc "UnlikeBooks") rfl)).1, (He.exc_ok (c.fact 120 (f := .exc "UnlikeBooks") rfl)).2.1, (He.exc_ok (c.fact 120 (f := .exc "UnlikeBooks") rfl)).2.2.1, (He.exc_ok (c.fact 120 (f := .exc "UnlikeBooks") rfl)).2.2.2, of_decide_eq_true e2⟩
  have TX := (He.exm_ok (c.fact 121 (f := .exm "UnlikeBooks" "UnlikeBooks" true) rfl))
  have b__law_draw : Binds K fd__law_draw ["_law_stream", "_law_many"] [] := FunD.bindsN (ps := ["_law_stream", "_law_many"]) F__law_draw fun _ _ _ _ _ _ us hl => match us, hl with | [_, _], _ => rfl
  have b__law_fresh : Binds K fd__law_fresh ["_law_stream", "_law_taken"] [] := FunD.bindsN (ps := ["_law_stream", "_law_taken"]) F__law_fresh fun _ _ _ _ _ _ us hl => match us, hl with | [_, _], _ => rfl
  have b__law_names : Binds K fd__law_names ["_law_stream", "_law_many"] [] := FunD.bindsN (ps := ["_law_stream", "_law_many"]) F__law_names fun _ _ _ _ _ _ us hl => match us, hl with | [_, _], _ => rfl
  have b__law_pick : Binds K fd__law_pick ["_law_stream", "_law_things"] [] := FunD.bindsN (ps := ["_law_stream", "_law_things"]) F__law_pick fun _ _ _ _ _ _ us hl => match us, hl with | [_, _], _ => rfl
  have b__law_shape : Binds K fd__law_shape ["_law_stream", "_law_many", "_law_most"] [] := FunD.bindsN (ps := ["_law_stream", "_law_many", "_law_most"]) F__law_shape fun _ _ _ _ _ _ us hl => match us, hl with | [_, _, _], _ => rfl
  have b__law_all_checks : Binds K fd__law_all_checks ["_law_b"] [] := FunD.bindsN (ps := ["_law_b"]) F__law_all_checks fun _ _ _ _ _ _ us hl => match us, hl with | [_], _ => rfl
  have b__law_checked : Binds K fd__law_checked ["_law_stream", "_law_b"] [] := FunD.bindsN (ps := ["_law_stream", "_law_b"]) F__law_checked fun _ _ _ _ _ _ us hl => match us, hl with | [_, _], _ => rfl
  have b__law_rules : Binds K fd__law_rules ["_law_stream", "_law_many", "_law_most"] [] := FunD.bindsN (ps := ["_law_stream", "_law_many", "_law_most"]) F__law_rules fun _ _ _ _ _ _ us hl => match us, hl with | [_, _, _], _ => rfl
  have b_is_name : Binds K fd_is_name ["thing"] [] := FunD.bindsN (ps := ["thing"]) F_is_name fun _ _ _ _ _ _ us hl => match us, hl with | [_], _ => rfl
  have b_check_fresh : Binds K fd_check_fresh ["word", "known"] [] := FunD.bindsN (ps := ["word", "known"]) F_check_fresh fun _ _ _ _ _ _ us hl => match us, hl with | [_, _], _ => rfl
  have b_kinds_of : Binds K fd_kinds_of ["kinds"] [] := FunD.bindsN (ps := ["kinds"]) F_kinds_of fun _ _ _ _ _ _ us hl => match us, hl with | [_], _ => rfl
  have b_stands_in : Binds K fd_stands_in ["thing", "names"] [] := FunD.bindsN (ps := ["thing", "names"]) F_stands_in fun _ _ _ _ _ _ us hl => match us, hl with | [_, _], _ => rfl
  have b_column_rows_of : Binds K fd_column_rows_of ["columns", "kinds"] [] := FunD.bindsN (ps := ["columns", "kinds"]) F_column_rows_of fun _ _ _ _ _ _ us hl => match us, hl with | [_, _], _ => rfl
  have b_Column___init__ : Binds K fd_Column___init__ ["self", "word", "home", "goal", "rule"] [] := FunD.bindsN (ps := ["self", "word", "home", "goal", "rule"]) F_Column___init__ fun _ _ _ _ _ _ us hl => match us, hl with | [_, _, _, _, _], _ => rfl
  have b_menu_of : Binds K fd_menu_of ["kinds", "columns"] [] := FunD.bindsN (ps := ["kinds", "columns"]) F_menu_of fun _ _ _ _ _ _ us hl => match us, hl with | [_, _], _ => rfl
  have b_checks_of : Binds K fd_checks_of ["checks", "menu"] [] := FunD.bindsN (ps := ["checks", "menu"]) F_checks_of fun _ _ _ _ _ _ us hl => match us, hl with | [_, _], _ => rfl
  have b_Book___init__ : Binds K fd_Book___init__ ["self", "kinds", "columns", "checks"] [] := by
    obtain ⟨ds, hv, hb⟩ := FunD.binds1 (ps := ["self", "kinds", "columns", "checks"]) F_Book___init__ 4 2 (by simp) rfl fun _ _ _ _ _ _ _ us its h1 h2 => match us, its, h1, h2 with | [_, _, _, _], [_, _], _, _ => ⟨_, rfl, rfl⟩
    cases hv
    exact hb
  have b__law_made : Binds K fd__law_made ["_law_b"] [] := FunD.bindsN (ps := ["_law_b"]) F__law_made fun _ _ _ _ _ _ us hl => match us, hl with | [_], _ => rfl
  have b__law_unlike : Binds K fd__law_unlike ["_law_stream", "_law_b"] [] := FunD.bindsN (ps := ["_law_stream", "_law_b"]) F__law_unlike fun _ _ _ _ _ _ us hl => match us, hl with | [_, _], _ => rfl
  have b_are_like : Binds K fd_are_like ["one", "other"] [] := FunD.bindsN (ps := ["one", "other"]) F_are_like fun _ _ _ _ _ _ us hl => match us, hl with | [_, _], _ => rfl
  have b_check_like : Binds K fd_check_like ["one", "other"] [] := FunD.bindsN (ps := ["one", "other"]) F_check_like fun _ _ _ _ _ _ us hl => match us, hl with | [_, _], _ => rfl
  have b_parting : Binds K fd_parting ["one", "other"] [] := FunD.bindsN (ps := ["one", "other"]) F_parting fun _ _ _ _ _ _ us hl => match us, hl with | [_, _], _ => rfl
  have b__law_refuses : Binds K fd__law_refuses ["_law_one", "_law_other"] [] := FunD.bindsN (ps := ["_law_one", "_law_other"]) F__law_refuses fun _ _ _ _ _ _ us hl => match us, hl with | [_, _], _ => rfl
  have b__law_mixed : Binds K fd__law_mixed ["_law_stream", "_law_things"] [] := FunD.bindsN (ps := ["_law_stream", "_law_things"]) F__law_mixed fun _ _ _ _ _ _ us hl => match us, hl with | [_, _], _ => rfl
  have b_ColumnWatch_first_other : Binds K fd_ColumnWatch_first_other ["self"] [] := FunD.bindsN (ps := ["self"]) F_ColumnWatch_first_other fun _ _ _ _ _ _ us hl => match us, hl with | [_], _ => rfl
  have b_Book_markable : Binds K fd_Book_markable ["self"] [] := FunD.bindsN (ps := ["self"]) F_Book_markable fun _ _ _ _ _ _ us hl => match us, hl with | [_], _ => rfl
  have b_Watch___init__ : Binds K fd_Watch___init__ ["self", "book", "home"] [] := FunD.bindsN (ps := ["self", "book", "home"]) F_Watch___init__ fun _ _ _ _ _ _ us hl => match us, hl with | [_, _, _], _ => rfl
  have b_KindWatch___init__ : Binds K fd_KindWatch___init__ ["self", "book", "home"] [] := FunD.bindsN (ps := ["self", "book", "home"]) F_KindWatch___init__ fun _ _ _ _ _ _ us hl => match us, hl with | [_, _, _], _ => rfl
  have b_watches_of : Binds K fd_watches_of ["book"] [] := FunD.bindsN (ps := ["book"]) F_watches_of fun _ _ _ _ _ _ us hl => match us, hl with | [_], _ => rfl
  have b_ColumnWatch_begin : Binds K fd_ColumnWatch_begin ["self"] [] := FunD.bindsN (ps := ["self"]) F_ColumnWatch_begin fun _ _ _ _ _ _ us hl => match us, hl with | [_], _ => rfl
  have b_ColumnWatch_list_labels : Binds K fd_ColumnWatch_list_labels ["self"] [] := FunD.bindsN (ps := ["self"]) F_ColumnWatch_list_labels fun _ _ _ _ _ _ us hl => match us, hl with | [_], _ => rfl
  have b_ColumnWatch_labels : Binds K fd_ColumnWatch_labels ["self"] [] := FunD.bindsN (ps := ["self"]) F_ColumnWatch_labels fun _ _ _ _ _ _ us hl => match us, hl with | [_], _ => rfl
  have b_Book___contains__ : Binds K fd_Book___contains__ ["self", "check"] [] := FunD.bindsN (ps := ["self", "check"]) F_Book___contains__ fun _ _ _ _ _ _ us hl => match us, hl with | [_, _], _ => rfl
  have b_ColumnWatch_may_put : Binds K fd_ColumnWatch_may_put ["self", "row"] [] := FunD.bindsN (ps := ["self", "row"]) F_ColumnWatch_may_put fun _ _ _ _ _ _ us hl => match us, hl with | [_, _], _ => rfl
  have b_ColumnWatch_has : Binds K fd_ColumnWatch_has ["self", "word", "name"] [] := FunD.bindsN (ps := ["self", "word", "name"]) F_ColumnWatch_has fun _ _ _ _ _ _ us hl => match us, hl with | [_, _, _], _ => rfl
  have b_ColumnWatch_may_refer : Binds K fd_ColumnWatch_may_refer ["self", "word", "owner", "state"] [] := FunD.bindsN (ps := ["self", "word", "owner", "state"]) F_ColumnWatch_may_refer fun _ _ _ _ _ _ us hl => match us, hl with | [_, _, _, _], _ => rfl
  have b_ColumnWatch_put_behind : Binds K fd_ColumnWatch_put_behind ["self", "row", "owner", "state"] [] := FunD.bindsN (ps := ["self", "row", "owner", "state"]) F_ColumnWatch_put_behind fun _ _ _ _ _ _ us hl => match us, hl with | [_, _, _, _], _ => rfl
  have b_ColumnWatch_turned : Binds K fd_ColumnWatch_turned ["self", "owner", "state"] [] := FunD.bindsN (ps := ["self", "owner", "state"]) F_ColumnWatch_turned fun _ _ _ _ _ _ us hl => match us, hl with | [_, _, _], _ => rfl
  have b_ColumnWatch_with_letter : Binds K fd_ColumnWatch_with_letter ["self", "letters", "letter"] [] := FunD.bindsN (ps := ["self", "letters", "letter"]) F_ColumnWatch_with_letter fun _ _ _ _ _ _ us hl => match us, hl with | [_, _, _], _ => rfl
  have b_ColumnWatch_fitting : Binds K fd_ColumnWatch_fitting ["self", "letter", "state"] [] := FunD.bindsN (ps := ["self", "letter", "state"]) F_ColumnWatch_fitting fun _ _ _ _ _ _ us hl => match us, hl with | [_, _, _], _ => rfl
  have b_ColumnWatch_looked : Binds K fd_ColumnWatch_looked ["self", "letter", "state"] [] := FunD.bindsN (ps := ["self", "letter", "state"]) F_ColumnWatch_looked fun _ _ _ _ _ _ us hl => match us, hl with | [_, _, _], _ => rfl
  have b_ColumnWatch_done_behind : Binds K fd_ColumnWatch_done_behind ["self", "letter", "state"] [] := FunD.bindsN (ps := ["self", "letter", "state"]) F_ColumnWatch_done_behind fun _ _ _ _ _ _ us hl => match us, hl with | [_, _, _], _ => rfl
  have b_ColumnWatch_may_mark : Binds K fd_ColumnWatch_may_mark ["self", "kind", "letters"] [] := FunD.bindsN (ps := ["self", "kind", "letters"]) F_ColumnWatch_may_mark fun _ _ _ _ _ _ us hl => match us, hl with | [_, _, _], _ => rfl
  have b_ColumnWatch_marked_behind : Binds K fd_ColumnWatch_marked_behind ["self", "label", "state"] [] := FunD.bindsN (ps := ["self", "label", "state"]) F_ColumnWatch_marked_behind fun _ _ _ _ _ _ us hl => match us, hl with | [_, _, _], _ => rfl
  have b_lacking : Binds K fd_lacking ["letters", "letter"] [] := FunD.bindsN (ps := ["letters", "letter"]) F_lacking fun _ _ _ _ _ _ us hl => match us, hl with | [_, _], _ => rfl
  have b_ColumnWatch_outcome : Binds K fd_ColumnWatch_outcome ["self", "label", "state"] [] := FunD.bindsN (ps := ["self", "label", "state"]) F_ColumnWatch_outcome fun _ _ _ _ _ _ us hl => match us, hl with | [_, _, _], _ => rfl
  have b_are_apart : Binds K fd_are_apart ["label", "one", "other"] [] := FunD.bindsN (ps := ["label", "one", "other"]) F_are_apart fun _ _ _ _ _ _ us hl => match us, hl with | [_, _, _], _ => rfl
  have b_way_apart : Binds K fd_way_apart ["first", "second"] [] := FunD.bindsN (ps := ["first", "second"]) F_way_apart fun _ _ _ _ _ _ us hl => match us, hl with | [_, _], _ => rfl
  have b_KindWatch_begin : Binds K fd_KindWatch_begin ["self"] [] := FunD.bindsN (ps := ["self"]) F_KindWatch_begin fun _ _ _ _ _ _ us hl => match us, hl with | [_], _ => rfl
  have b_KindWatch_list_labels : Binds K fd_KindWatch_list_labels ["self"] [] := FunD.bindsN (ps := ["self"]) F_KindWatch_list_labels fun _ _ _ _ _ _ us hl => match us, hl with | [_], _ => rfl
  have b_KindWatch_labels : Binds K fd_KindWatch_labels ["self"] [] := FunD.bindsN (ps := ["self"]) F_KindWatch_labels fun _ _ _ _ _ _ us hl => match us, hl with | [_], _ => rfl
  have b_KindWatch_may_put : Binds K fd_KindWatch_may_put ["self", "row"] [] := FunD.bindsN (ps := ["self", "row"]) F_KindWatch_may_put fun _ _ _ _ _ _ us hl => match us, hl with | [_, _], _ => rfl
  have b_KindWatch_may_mark : Binds K fd_KindWatch_may_mark ["self", "kind", "letters"] [] := FunD.bindsN (ps := ["self", "kind", "letters"]) F_KindWatch_may_mark fun _ _ _ _ _ _ us hl => match us, hl with | [_, _, _], _ => rfl
  have b_KindWatch_with_letter : Binds K fd_KindWatch_with_letter ["self", "letters", "letter"] [] := FunD.bindsN (ps := ["self", "letters", "letter"]) F_KindWatch_with_letter fun _ _ _ _ _ _ us hl => match us, hl with | [_, _, _], _ => rfl
  have b_KindWatch_has : Binds K fd_KindWatch_has ["self", "word", "name"] [] := FunD.bindsN (ps := ["self", "word", "name"]) F_KindWatch_has fun _ _ _ _ _ _ us hl => match us, hl with | [_, _, _], _ => rfl
  have b_KindWatch_outcome : Binds K fd_KindWatch_outcome ["self", "label", "state"] [] := FunD.bindsN (ps := ["self", "label", "state"]) F_KindWatch_outcome fun _ _ _ _ _ _ us hl => match us, hl with | [_, _, _], _ => rfl
  have b_law : Binds K fd_law ["_law_script"] [] := FunD.bindsN (ps := ["_law_script"]) F_law fun _ _ _ _ _ _ us hl => match us, hl with | [_], _ => rfl
  refine ⟨fd_law, fun s v => FunD.bindsA (ps := ["_law_script"]) F_law (fun _ _ _ _ _ _ us hl => match us, hl with | [_], _ => rfl) s [v] rfl, fun base _ _ => ?_⟩
  have c__law_draw : Cal LP w K mg base CX0 1 "_law_draw" ["_law_stream", "_law_many"] (spR R_draw) := ⟨⟨_, _, ok__law_draw T  F__law_draw, (He.glo_ok X G (c.fact 58 (f := .glo "_law_draw") rfl)), F__law_draw.kp, b__law_draw⟩⟩
  have c__law_fresh : Cal LP w K mg base CX0 2 "_law_fresh" ["_law_stream", "_law_taken"] (spR R_fresh) := ⟨⟨_, _, ok__law_fresh T c__law_draw F__law_fresh, (He.glo_ok X G (c.fact 59 (f := .glo "_law_fresh") rfl)), F__law_fresh.kp, b__law_fresh⟩⟩
  have c__law_names : Cal LP w K mg base CX0 3 "_law_names" ["_law_stream", "_law_many"] (spR R_names) := ⟨⟨_, _, ok__law_names T c__law_fresh F__law_names, (He.glo_ok X G (c.fact 60 (f := .glo "_law_names") rfl)), F__law_names.kp, b__law_names⟩⟩
  have c__law_pick : Cal LP w K mg base CX0 2 "_law_pick" ["_law_stream", "_law_things"] (spR R_pick) := ⟨⟨_, _, ok__law_pick T c__law_draw F__law_pick, (He.glo_ok X G (c.fact 61 (f := .glo "_law_pick") rfl)), F__law_pick.kp, b__law_pick⟩⟩
  have c__law_shape : Cal LP w K mg base CX0 4 "_law_shape" ["_law_stream", "_law_many", "_law_most"] (spR R_shape) := ⟨⟨_, _, ok__law_shape T c__law_names c__law_pick c__law_draw F__law_shape, (He.glo_ok X G (c.fact 62 (f := .glo "_law_shape") rfl)), F__law_shape.kp, b__law_shape⟩⟩
  have c__law_all_checks : Cal LP w K mg base CX0 1 "_law_all_checks" ["_law_b"] (spR R_all_checks) := ⟨⟨_, _, ok__law_all_checks T  F__law_all_checks, (He.glo_ok X G (c.fact 63 (f := .glo "_law_all_checks") rfl)), F__law_all_checks.kp, b__law_all_checks⟩⟩
  have c__law_checked : Cal LP w K mg base CX0 2 "_law_checked" ["_law_stream", "_law_b"] (spR R_checked) := ⟨⟨_, _, ok__law_checked T c__law_draw c__law_all_checks F__law_checked, (He.glo_ok X G (c.fact 64 (f := .glo "_law_checked") rfl)), F__law_checked.kp, b__law_checked⟩⟩
  have c__law_rules : Cal LP w K mg base CX0 5 "_law_rules" ["_law_stream", "_law_many", "_law_most"] (spR R_rules) := ⟨⟨_, _, ok__law_rules T c__law_draw c__law_shape c__law_checked F__law_rules, (He.glo_ok X G (c.fact 65 (f := .glo "_law_rules") rfl)), F__law_rules.kp, b__law_rules⟩⟩
  have c_is_name : Cal LP w K mg base CX0 1 "is_name" ["thing"] (spR R_is_name) := ⟨⟨_, _, ok_is_name T  F_is_name, (He.glo_ok X G (c.fact 66 (f := .glo "is_name") rfl)), F_is_name.kp, b_is_name⟩⟩
  have c_check_fresh : Cal LP w K mg base CX0 2 "check_fresh" ["word", "known"] (spR R_check_fresh) := ⟨⟨_, _, ok_check_fresh T c_is_name F_check_fresh, (He.glo_ok X G (c.fact 67 (f := .glo "check_fresh") rfl)), F_check_fresh.kp, b_check_fresh⟩⟩
  have c_kinds_of : Cal LP w K mg base CX0 3 "kinds_of" ["kinds"] (spR R_kinds_of) := ⟨⟨_, _, ok_kinds_of T c_check_fresh F_kinds_of, (He.glo_ok X G (c.fact 68 (f := .glo "kinds_of") rfl)), F_kinds_of.kp, b_kinds_of⟩⟩
  have c_stands_in : Cal LP w K mg base CX0 1 "stands_in" ["thing", "names"] (spR R_stands_in) := ⟨⟨_, _, ok_stands_in T  F_stands_in, (He.glo_ok X G (c.fact 69 (f := .glo "stands_in") rfl)), F_stands_in.kp, b_stands_in⟩⟩
  have c_column_rows_of : Cal LP w K mg base CX0 3 "column_rows_of" ["columns", "kinds"] (spR R_column_rows_of) := ⟨⟨_, _, ok_column_rows_of T c_check_fresh c_stands_in F_column_rows_of, (He.glo_ok X G (c.fact 70 (f := .glo "column_rows_of") rfl)), F_column_rows_of.kp, b_column_rows_of⟩⟩
  have c_Column : MkC LP w K mg base CX0 1 (He.ga K "Column") "Column" ["self", "word", "home", "goal", "rule"] (spR (R_Column___init__ K)) := ⟨⟨_, _, ok_Column___init__ T  F_Column___init__, He.mkr_ok (c.fact 71 (f := .mkr "Column") rfl), b_Column___init__⟩, (He.glo_ok X G (c.fact 72 (f := .glo "Column") rfl))⟩
  have c_menu_of : Cal LP w K mg base CX0 1 "menu_of" ["kinds", "columns"] (spR R_menu_of) := ⟨⟨_, _, ok_menu_of T  F_menu_of, (He.glo_ok X G (c.fact 73 (f := .glo "menu_of") rfl)), F_menu_of.kp, b_menu_of⟩⟩
  have c_checks_of : Cal LP w K mg base CX0 2 "checks_of" ["checks", "menu"] (spR R_checks_of) := ⟨⟨_, _, ok_checks_of T c_stands_in F_checks_of, (He.glo_ok X G (c.fact 74 (f := .glo "checks_of") rfl)), F_checks_of.kp, b_checks_of⟩⟩
  have c_Book : MkC LP w K mg base CX0 4 (He.ga K "Book") "Book" ["self", "kinds", "columns", "checks"] (spR (R_Book___init__ K)) := ⟨⟨_, _, ok_Book___init__ T c_kinds_of c_column_rows_of c_Column c_menu_of c_checks_of F_Book___init__, He.mkr_ok (c.fact 75 (f := .mkr "Book") rfl), b_Book___init__⟩, (He.glo_ok X G (c.fact 76 (f := .glo "Book") rfl))⟩
  have c__law_made : Cal LP w K mg base CX0 6 "_law_made" ["_law_b"] (spR (R_made K)) := ⟨⟨_, _, ok__law_made T c_Book F__law_made, (He.glo_ok X G (c.fact 77 (f := .glo "_law_made") rfl)), F__law_made.kp, b__law_made⟩⟩
  have c__law_unlike : Cal LP w K mg base CX0 2 "_law_unlike" ["_law_stream", "_law_b"] (spR R_unlike) := ⟨⟨_, _, ok__law_unlike T c__law_draw F__law_unlike, (He.glo_ok X G (c.fact 78 (f := .glo "_law_unlike") rfl)), F__law_unlike.kp, b__law_unlike⟩⟩
  have c_are_like : Cal LP w K mg base CX0 1 "are_like" ["one", "other"] (spR (R_are_like K)) := ⟨⟨_, _, ok_are_like T  F_are_like, (He.glo_ok X G (c.fact 79 (f := .glo "are_like") rfl)), F_are_like.kp, b_are_like⟩⟩
  have c_check_like_E : Cal LP w K mg base (CX LP w) 3 "check_like" ["one", "other"] (spE (pre_E K) (He.ga K "UnlikeBooks")) := ⟨⟨_, _, fn_lift (ok_check_like_E T c_are_like TE F_check_like) (by decide), (He.glo_ok X G (c.fact 80 (f := .glo "check_like") rfl)), F_check_like.kp, b_check_like⟩⟩
  have c_parting_E : Cal LP w K mg base (CX LP w) 4 "parting" ["one", "other"] (spE (pre_E K) (He.ga K "UnlikeBooks")) := ⟨⟨_, _, ok_parting_E T c_check_like_E F_parting, (He.glo_ok X G (c.fact 81 (f := .glo "parting") rfl)), F_parting.kp, b_parting⟩⟩
  have c__law_refuses : Cal LP w K mg base CX0 5 "_law_refuses" ["_law_one", "_law_other"] (spR (R_refuses K)) := ⟨⟨_, _, ok__law_refuses T TE TX c_parting_E F__law_refuses, (He.glo_ok X G (c.fact 82 (f := .glo "_law_refuses") rfl)), F__law_refuses.kp, b__law_refuses⟩⟩
  have c__law_mixed : Cal LP w K mg base CX0 2 "_law_mixed" ["_law_stream", "_law_things"] (spR R_mixed) := ⟨⟨_, _, ok__law_mixed T c__law_draw F__law_mixed, (He.glo_ok X G (c.fact 83 (f := .glo "_law_mixed") rfl)), F__law_mixed.kp, b__law_mixed⟩⟩
  have c_check_like : Cal LP w K mg base CX0 2 "check_like" ["one", "other"] (spR (R_check_like K)) := ⟨⟨_, _, ok_check_like T c_are_like F_check_like, (He.glo_ok X G (c.fact 80 (f := .glo "check_like") rfl)), F_check_like.kp, b_check_like⟩⟩
  have c_ColumnWatch_first_other : Met LP w K mg base CX0 1 (He.ga K "ColumnWatch") "first_other" ["self"] (spR (R_ColumnWatch_first_other K)) := ⟨⟨_, _, ok_ColumnWatch_first_other T  F_ColumnWatch_first_other, He.meth_ok (c.fact 84 (f := .meth "ColumnWatch" "first_other") rfl), b_ColumnWatch_first_other⟩, T.cl_ColumnWatch⟩
  have c_Book_markable : Met LP w K mg base CX0 1 (He.ga K "Book") "markable" ["self"] (spR (R_Book_markable K)) := ⟨⟨_, _, ok_Book_markable T  F_Book_markable, He.meth_ok (c.fact 85 (f := .meth "Book" "markable") rfl), b_Book_markable⟩, T.cl_Book⟩
  have c_ColumnWatch : MkC LP w K mg base CX0 3 (He.ga K "ColumnWatch") "ColumnWatch" ["self", "book", "column"] (spR (R_ColumnWatch___init__ K)) := ⟨⟨_, _, ok_ColumnWatch___init__ T c_ColumnWatch_first_other FS (ok_Watch___init__ T c_Book_markable F_Watch___init__) b_Watch___init__, He.mkr_ok (c.fact 86 (f := .mkr "ColumnWatch") rfl), bS⟩, (He.glo_ok X G (c.fact 87 (f := .glo "ColumnWatch") rfl))⟩
  have c_KindWatch : MkC LP w K mg base CX0 2 (He.ga K "KindWatch") "KindWatch" ["self", "book", "home"] (spR (R_Watch___init__ K)) := ⟨⟨_, _, ok_Watch___init__ T c_Book_markable F_KindWatch___init__, He.mkr_ok (c.fact 88 (f := .mkr "KindWatch") rfl), b_KindWatch___init__⟩, (He.glo_ok X G (c.fact 89 (f := .glo "KindWatch") rfl))⟩
  have c_watches_of : Cal LP w K mg base CX0 5 "watches_of" ["book"] (spR (R_watches_of K)) := ⟨⟨_, _, ok_watches_of T c_ColumnWatch c_KindWatch F_watches_of, (He.glo_ok X G (c.fact 90 (f := .glo "watches_of") rfl)), F_watches_of.kp, b_watches_of⟩⟩
  have c_ColumnWatch_begin : Met LP w K mg base CX0 1 (He.ga K "ColumnWatch") "begin" ["self"] (spR (R_ColumnWatch_begin K)) := ⟨⟨_, _, ok_ColumnWatch_begin T  F_ColumnWatch_begin, He.meth_ok (c.fact 91 (f := .meth "ColumnWatch" "begin") rfl), b_ColumnWatch_begin⟩, T.cl_ColumnWatch⟩
  have c_ColumnWatch_list_labels : MetR LP w K mg base 1 (He.ga K "ColumnWatch") "list_labels" ["self"] (spRn (pre_LL K) res_LL) := ⟨⟨_, _, ok_Watch_list_labels T  F_ColumnWatch_list_labels, He.meth_ok (c.fact 92 (f := .meth "ColumnWatch" "list_labels") rfl), b_ColumnWatch_list_labels⟩, T.cl_ColumnWatch⟩
  have c_ColumnWatch_labels : MetR LP w K mg base 2 (He.ga K "ColumnWatch") "labels" ["self"] (spRn (pre_CL K) res_CL) := ⟨⟨_, _, ok_ColumnWatch_labels T c_ColumnWatch_list_labels F_ColumnWatch_labels, He.meth_ok (c.fact 93 (f := .meth "ColumnWatch" "labels") rfl), b_ColumnWatch_labels⟩, T.cl_ColumnWatch⟩
  have c_Book___contains__ : Met LP w K mg base CX0 2 (He.ga K "Book") "__contains__" ["self", "check"] (spR (R_Book___contains__ K)) := ⟨⟨_, _, ok_Book___contains__ T c_stands_in F_Book___contains__, He.meth_ok (c.fact 94 (f := .meth "Book" "__contains__") rfl), b_Book___contains__⟩, T.cl_Book⟩
  have c_ColumnWatch_may_put : Met LP w K mg base CX0 3 (He.ga K "ColumnWatch") "may_put" ["self", "row"] (spR (R_Watch_may_put K)) := ⟨⟨_, _, ok_Watch_may_put T c_Book___contains__ F_ColumnWatch_may_put, He.meth_ok (c.fact 95 (f := .meth "ColumnWatch" "may_put") rfl), b_ColumnWatch_may_put⟩, T.cl_ColumnWatch⟩
  have c_ColumnWatch_has : Met LP w K mg base CX0 3 (He.ga K "ColumnWatch") "has" ["self", "word", "name"] (spR (R_Watch_has K)) := ⟨⟨_, _, ok_Watch_has T c_Book___contains__ F_ColumnWatch_has, He.meth_ok (c.fact 96 (f := .meth "ColumnWatch" "has") rfl), b_ColumnWatch_has⟩, T.cl_ColumnWatch⟩
  have c_ColumnWatch_may_refer : Met LP w K mg base CX0 4 (He.ga K "ColumnWatch") "may_refer" ["self", "word", "owner", "state"] (spR (R_ColumnWatch_may_refer K)) := ⟨⟨_, _, ok_ColumnWatch_may_refer T c_ColumnWatch_has F_ColumnWatch_may_refer, He.meth_ok (c.fact 97 (f := .meth "ColumnWatch" "may_refer") rfl), b_ColumnWatch_may_refer⟩, T.cl_ColumnWatch⟩
  have c_ColumnWatch_put_behind : Met LP w K mg base CX0 5 (He.ga K "ColumnWatch") "put_behind" ["self", "row", "owner", "state"] (spR (R_ColumnWatch_put_behind K)) := ⟨⟨_, _, ok_ColumnWatch_put_behind T c_ColumnWatch_may_put c_ColumnWatch_may_refer F_ColumnWatch_put_behind, He.meth_ok (c.fact 98 (f := .meth "ColumnWatch" "put_behind") rfl), b_ColumnWatch_put_behind⟩, T.cl_ColumnWatch⟩
  have c_ColumnWatch_turned : Met LP w K mg base CX0 5 (He.ga K "ColumnWatch") "turned" ["self", "owner", "state"] (spR (R_ColumnWatch_turned K)) := ⟨⟨_, _, ok_ColumnWatch_turned T c_ColumnWatch_may_refer c_ColumnWatch_has F_ColumnWatch_turned, He.meth_ok (c.fact 99 (f := .meth "ColumnWatch" "turned") rfl), b_ColumnWatch_turned⟩, T.cl_ColumnWatch⟩
  have c_ColumnWatch_with_letter : Met LP w K mg base CX0 3 (He.ga K "ColumnWatch") "with_letter" ["self", "letters", "letter"] (spR (R_Watch_with_letter K)) := ⟨⟨_, _, ok_Watch_with_letter T c_Book___contains__ F_ColumnWatch_with_letter, He.meth_ok (c.fact 100 (f := .meth "ColumnWatch" "with_letter") rfl), b_ColumnWatch_with_letter⟩, T.cl_ColumnWatch⟩
  have c_ColumnWatch_fitting : Met LP w K mg base CX0 4 (He.ga K "ColumnWatch") "fitting" ["self", "letter", "state"] (spR (R_ColumnWatch_fitting K)) := ⟨⟨_, _, ok_ColumnWatch_fitting T c_ColumnWatch_has F_ColumnWatch_fitting, He.meth_ok (c.fact 101 (f := .meth "ColumnWatch" "fitting") rfl), b_ColumnWatch_fitting⟩, T.cl_ColumnWatch⟩
  have c_ColumnWatch_looked : Met LP w K mg base CX0 5 (He.ga K "ColumnWatch") "looked" ["self", "letter", "state"] (spR (R_ColumnWatch_looked K)) := ⟨⟨_, _, ok_ColumnWatch_looked T c_ColumnWatch_with_letter c_ColumnWatch_fitting F_ColumnWatch_looked, He.meth_ok (c.fact 102 (f := .meth "ColumnWatch" "looked") rfl), b_ColumnWatch_looked⟩, T.cl_ColumnWatch⟩
  have c_ColumnWatch_done_behind : Met LP w K mg base CX0 5 (He.ga K "ColumnWatch") "done_behind" ["self", "letter", "state"] (spR (R_ColumnWatch_done_behind K)) := ⟨⟨_, _, ok_ColumnWatch_done_behind T c_ColumnWatch_has c_ColumnWatch_fitting F_ColumnWatch_done_behind, He.meth_ok (c.fact 103 (f := .meth "ColumnWatch" "done_behind") rfl), b_ColumnWatch_done_behind⟩, T.cl_ColumnWatch⟩
  have c_ColumnWatch_may_mark : Met LP w K mg base CX0 3 (He.ga K "ColumnWatch") "may_mark" ["self", "kind", "letters"] (spR (R_Watch_may_mark K)) := ⟨⟨_, _, ok_Watch_may_mark T c_Book___contains__ F_ColumnWatch_may_mark, He.meth_ok (c.fact 104 (f := .meth "ColumnWatch" "may_mark") rfl), b_ColumnWatch_may_mark⟩, T.cl_ColumnWatch⟩
  have c_ColumnWatch_marked_behind : Met LP w K mg base CX0 4 (He.ga K "ColumnWatch") "marked_behind" ["self", "label", "state"] (spR (R_ColumnWatch_marked_behind K)) := ⟨⟨_, _, ok_ColumnWatch_marked_behind T c_ColumnWatch_may_mark c_Book___contains__ F_ColumnWatch_marked_behind, He.meth_ok (c.fact 105 (f := .meth "ColumnWatch" "marked_behind") rfl), b_ColumnWatch_marked_behind⟩, T.cl_ColumnWatch⟩
  have c_lacking : Lk LP w K mg base 1 "lacking" := ⟨⟨_, lack_run (N := ["letters", "letter"]) F_lacking ⟨rfl, rfl, rfl, by decide +kernel, rfl, by decide +kernel, by decide +kernel⟩ rfl b_lacking rfl rfl rfl rfl rfl, (He.glo_ok X G (c.fact 106 (f := .glo "lacking") rfl)), F_lacking.kp⟩⟩
  have c_ColumnWatch_outcome : ∀ n, 1 ≤ n → MetN n LP w K mg base CX0 6 (He.ga K "ColumnWatch") "outcome" ["self", "label", "state"] (spR (R_ColumnWatch_outcome K n)) := fun n hn => ⟨⟨_, _, ok_ColumnWatch_outcome hn T c_ColumnWatch_put_behind c_ColumnWatch_turned c_ColumnWatch_looked c_ColumnWatch_done_behind c_ColumnWatch_marked_behind c_lacking F_ColumnWatch_outcome, He.meth_ok (c.fact 107 (f := .meth "ColumnWatch" "outcome") rfl), b_ColumnWatch_outcome⟩, T.cl_ColumnWatch⟩
  have c_are_apart : Cal LP w K mg base CX0 1 "are_apart" ["label", "one", "other"] (spR R_are_apart) := ⟨⟨_, _, ok_are_apart T  F_are_apart, (He.glo_ok X G (c.fact 108 (f := .glo "are_apart") rfl)), F_are_apart.kp, b_are_apart⟩⟩
  have c_KindWatch_begin : Met LP w K mg base CX0 1 (He.ga K "KindWatch") "begin" ["self"] (spR (R_KindWatch_begin K)) := ⟨⟨_, _, ok_KindWatch_begin T  F_KindWatch_begin, He.meth_ok (c.fact 109 (f := .meth "KindWatch" "begin") rfl), b_KindWatch_begin⟩, T.cl_KindWatch⟩
  have c_KindWatch_list_labels : MetR LP w K mg base 1 (He.ga K "KindWatch") "list_labels" ["self"] (spRn (pre_LL K) res_LL) := ⟨⟨_, _, ok_Watch_list_labels T  F_KindWatch_list_labels, He.meth_ok (c.fact 110 (f := .meth "KindWatch" "list_labels") rfl), b_KindWatch_list_labels⟩, T.cl_KindWatch⟩
  have c_KindWatch_labels : MetR LP w K mg base 2 (He.ga K "KindWatch") "labels" ["self"] (spRn (pre_KL K) res_KL) := ⟨⟨_, _, ok_KindWatch_labels T c_KindWatch_list_labels F_KindWatch_labels, He.meth_ok (c.fact 111 (f := .meth "KindWatch" "labels") rfl), b_KindWatch_labels⟩, T.cl_KindWatch⟩
  have c_KindWatch_may_put : Met LP w K mg base CX0 3 (He.ga K "KindWatch") "may_put" ["self", "row"] (spR (R_Watch_may_put K)) := ⟨⟨_, _, ok_Watch_may_put T c_Book___contains__ F_KindWatch_may_put, He.meth_ok (c.fact 112 (f := .meth "KindWatch" "may_put") rfl), b_KindWatch_may_put⟩, T.cl_KindWatch⟩
  have c_KindWatch_may_mark : Met LP w K mg base CX0 3 (He.ga K "KindWatch") "may_mark" ["self", "kind", "letters"] (spR (R_Watch_may_mark K)) := ⟨⟨_, _, ok_Watch_may_mark T c_Book___contains__ F_KindWatch_may_mark, He.meth_ok (c.fact 113 (f := .meth "KindWatch" "may_mark") rfl), b_KindWatch_may_mark⟩, T.cl_KindWatch⟩
  have c_KindWatch_with_letter : Met LP w K mg base CX0 3 (He.ga K "KindWatch") "with_letter" ["self", "letters", "letter"] (spR (R_Watch_with_letter K)) := ⟨⟨_, _, ok_Watch_with_letter T c_Book___contains__ F_KindWatch_with_letter, He.meth_ok (c.fact 114 (f := .meth "KindWatch" "with_letter") rfl), b_KindWatch_with_letter⟩, T.cl_KindWatch⟩
  have c_KindWatch_has : Met LP w K mg base CX0 3 (He.ga K "KindWatch") "has" ["self", "word", "name"] (spR (R_Watch_has K)) := ⟨⟨_, _, ok_Watch_has T c_Book___contains__ F_KindWatch_has, He.meth_ok (c.fact 115 (f := .meth "KindWatch" "has") rfl), b_KindWatch_has⟩, T.cl_KindWatch⟩
  have c_KindWatch_outcome : ∀ n, 1 ≤ n → MetN n LP w K mg base CX0 4 (He.ga K "KindWatch") "outcome" ["self", "label", "state"] (spR (R_KindWatch_outcome K n)) := fun n hn => ⟨⟨_, _, ok_KindWatch_outcome hn T c_KindWatch_may_put c_KindWatch_may_mark c_KindWatch_with_letter c_KindWatch_has c_lacking F_KindWatch_outcome, He.meth_ok (c.fact 116 (f := .meth "KindWatch" "outcome") rfl), b_KindWatch_outcome⟩, T.cl_KindWatch⟩
  have c_way_apart : Cal LP w K mg base CX0 8 "way_apart" ["first", "second"] (spR (RS.or (R_way_apart_C K) (R_way_apart_K K))) := ⟨⟨_, _, fn_or (ok_way_apart_C T c_ColumnWatch_begin c_ColumnWatch_labels c_ColumnWatch_outcome c_are_apart F_way_apart) (ok_way_apart_K T c_KindWatch_begin c_KindWatch_labels c_KindWatch_outcome c_are_apart F_way_apart) (by decide) (by decide), (He.glo_ok X G (c.fact 117 (f := .glo "way_apart") rfl)), F_way_apart.kp, b_way_apart⟩⟩
  have c_parting : Cal LP w K mg base CX0 9 "parting" ["one", "other"] (spR (R_parting K)) := ⟨⟨_, _, ok_parting T c_check_like c_watches_of c_way_apart F_parting, (He.glo_ok X G (c.fact 81 (f := .glo "parting") rfl)), F_parting.kp, b_parting⟩⟩
  exact ok_law T c__law_rules c__law_made c__law_unlike c__law_refuses c__law_mixed c_parting F_law
end Ls
set_option Elab.async false
set_option linter.all false
set_option maxRecDepth 100000
set_option maxHeartbeats 0
open PySem PySem.W PySem.Calls PyProof.Rows
theorem PySem.Challenge.cw_longstrike_k67_partings_refused_holds : PySem.Challenge.rw_longstrike_k67_partings_refused.Holds := by
  w_on; o_law
  refine HandSHeadRun.head_any (r := OpenLaw.row PySem.Challenge.rw_longstrike_k67_partings_refused) (q := view (OpenLaw.row PySem.Challenge.rw_longstrike_k67_partings_refused).prog [59]) (H := Ls.hookY) (ob := Ls.ob) (M := 8000) (loose := Ls.names) (d := HandSHeadRun.topDef (OpenLaw.row PySem.Challenge.rw_longstrike_k67_partings_refused).prog 59) (kwd := []) Ls.ob_eq
    (by kernel_rfl) (fun s => by kernel_rfl) Ls.run (by kernel_rfl) (by kernel_rfl) (by kernel_rfl) (by rfl) (by first | assumption | decide +kernel) (by decide +kernel) ⟨rfl, rfl, rfl, rfl, rfl, by decide +kernel⟩ ?hw ?hc
  case hw => w_witness2
  case hc =>
    refine L2.walk_ofE (l := PySem.Challenge.rw_longstrike_k67_partings_refused) (n := 63) (k := 10) (x := "_law_script") (CX := L2.CX0) rfl (by decide) (by kernel_rfl) ⟨rfl, by decide, by decide⟩ ?F (fun _ _ _ _ z => z)
    intro w mg fa h Y G hmg0
    obtain ⟨K, KX, c⟩ := Y
    have hmg : mg ("law" : PySem.Str) = some (.ref fa) := by
      have e : (HandSHeadRun.topDef (OpenLaw.row PySem.Challenge.rw_longstrike_k67_partings_refused).prog 59).name = ("law" : PySem.Str) := by kernel_rfl
      rw [← e]
      exact hmg0
    obtain ⟨fd, hb, hF⟩ := Ls.facts (w := w) KX G hmg c
    exact ⟨K, fd, Ls.spLaw K, KX, hb, fun H a ns hl _ hS => ⟨a, ns, rfl, hS, Nat.le_trans hl (by decide), fun _ => rfl⟩, hF⟩
