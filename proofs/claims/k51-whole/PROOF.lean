import PyProof.Rows.All
import Wide.All
import OpenK.AllK
import Wide.FinOn
import Wide.Once
import KE.KStateDown
import HandS.Base
import HandS.Call
import HandS.Words
import HandS.Codes
import HandS.Head0
import HandS.Head1
import HandS.Head2
import HandS.HeadHook4
import HandS.HeadWalk
import HandS.ForMost
import HandS.Evl
import HandS.Defaults
import HandS.Star
import HandS.FStr
import HandS.NoneIn
import HandS.Conv
import HandS.RaiseMore
import HandS.TupAny
import HandS.IsInst
import HandS.DictTup
import HandS.DictComp
import HandS.More
import HandS.RevRange
import HandS.Walk
import PyProof.ToksMono
import HandS.Replace
import PyProof.StrReplace2
import PyProof.MeetsStr3
import KE.KSuper
import KE.KDictDisplayH
import KE.SortKeyHeap
import KE.KLam
import HandS.Lambda
import HandS.FStrTup
import PyProof.Rows.StrFin3
import KE.KNestM
import PySem.Challenge.RW_longstrike_k51_whole_judged_by_condition
/-! LsHa -/
set_option Elab.async false
set_option linter.all false
set_option maxRecDepth 100000
namespace Ls
open PySem PySem.Spec PyProof.Rows L2
/-! ### the text by places -/
def top (i : Nat) : Stmt := PySem.Challenge.pw_longstrike_k51_whole_judged_by_condition.main.body.getD i (.Pass ⟨0, 0, 0, 0⟩)
abbrev meth (i j : Nat) : Stmt := inClass (top i) j
/-! ### the classes, the data -/
def cB (K : PySem.W.Frag) : Addr := He.ga K "Book"
def cC (K : PySem.W.Frag) : Addr := He.ga K "Column"
def cK (K : PySem.W.Frag) : Addr := He.ga K "KindWatch"
def cW (K : PySem.W.Frag) : Addr := He.ga K "ColumnWatch"
def cV (K : PySem.W.Frag) : Addr := He.ga K "Weaver"
abbrev LR : PySem.W.OpenLaw := PySem.Challenge.rw_longstrike_k51_whole_judged_by_condition
def dG (x : Str) (i : Nat) : He.DefD := ⟨(x, none), x, x, C8.fnArgs (top i), C8.fnBody (top i), C8.fnScope (top i), [], []⟩
def dM (C m q : Str) (i j : Nat) : He.DefD := ⟨(C, some m), m, q, C8.fnArgs (meth i j), C8.fnBody (meth i j), C8.fnScope (meth i j), [], []⟩

def fnL : List He.DefD := [dG "is_name" 27,
  dG "stands_in" 30,
  dG "check_fresh" 35,
  dG "kinds_of" 36,
  dG "column_rows_of" 37,
  dG "checks_of" 38,
  dG "menu_of" 39,
  dG "lacking" 52,
  dG "watch_of" 56,
  dG "checked_question" 58,
  dG "behind_all" 59,
  dG "table" 60,
  dG "way_to_fault" 67,
  dG "chain_up" 68,
  dG "put_chain" 69,
  dG "mark_by_chain" 70,
  dG "judge" 85,
  dG "_law_draw" 87,
  dG "_law_pick" 88,
  dG "_law_mixed" 89,
  dG "_law_same" 90,
  dG "_law_fresh" 91,
  dG "_law_names" 92,
  dG "_law_shape" 93,
  dG "_law_all_checks" 94,
  dG "_law_checked" 95,
  dG "_law_rules" 96,
  dG "_law_made" 97,
  dG "_law_by" 98,
  dG "_law_markable" 99,
  dG "_law_checks" 100,
  dG "_law_questions" 101,
  dG "_law_comes" 102,
  dG "law" 103,
  dM "Column" "__init__" "Column.__init__" 34 0,
  { dM "Book" "__init__" "Book.__init__" 40 0 with dfl := [.adr (He.dflAt ("Book", some "__init__") 0), .adr (He.dflAt ("Book", some "__init__") 1)] },
  dM "Book" "columns_of" "Book.columns_of" 40 5,
  dM "Book" "markable" "Book.markable" 40 6,
  dM "Book" "questions" "Book.questions" 40 7,
  dM "Book" "__contains__" "Book.__contains__" 40 9,
  dM "KindWatch" "has" "Watch.has" 53 1,
  dM "KindWatch" "may_mark" "Watch.may_mark" 53 2,
  dM "KindWatch" "may_put" "Watch.may_put" 53 3,
  dM "KindWatch" "with_letter" "Watch.with_letter" 53 4,
  dM "KindWatch" "list_labels" "Watch.list_labels" 53 6,
  dM "ColumnWatch" "has" "Watch.has" 53 1,
  dM "ColumnWatch" "may_mark" "Watch.may_mark" 53 2,
  dM "ColumnWatch" "may_put" "Watch.may_put" 53 3,
  dM "ColumnWatch" "with_letter" "Watch.with_letter" 53 4,
  dM "ColumnWatch" "list_labels" "Watch.list_labels" 53 6,
  dM "KindWatch" "__init__" "Watch.__init__" 53 0,
  dM "KindWatch" "begin" "KindWatch.begin" 54 0,
  dM "KindWatch" "labels" "KindWatch.labels" 54 1,
  dM "KindWatch" "outcome" "KindWatch.outcome" 54 3,
  dM "KindWatch" "is_fault" "KindWatch.is_fault" 54 4,
  dM "ColumnWatch" "begin" "ColumnWatch.begin" 55 1,
  dM "ColumnWatch" "labels" "ColumnWatch.labels" 55 2,
  dM "ColumnWatch" "first_other" "ColumnWatch.first_other" 55 4,
  dM "ColumnWatch" "outcome" "ColumnWatch.outcome" 55 5,
  dM "ColumnWatch" "may_refer" "ColumnWatch.may_refer" 55 6,
  dM "ColumnWatch" "put_behind" "ColumnWatch.put_behind" 55 7,
  dM "ColumnWatch" "turned" "ColumnWatch.turned" 55 8,
  dM "ColumnWatch" "marked_behind" "ColumnWatch.marked_behind" 55 9,
  dM "ColumnWatch" "fitting" "ColumnWatch.fitting" 55 10,
  dM "ColumnWatch" "looked" "ColumnWatch.looked" 55 11,
  dM "ColumnWatch" "done_behind" "ColumnWatch.done_behind" 55 12,
  dM "ColumnWatch" "is_fault" "ColumnWatch.is_fault" 55 13,
  dM "Weaver" "__init__" "Weaver.__init__" 71 0,
  dM "Weaver" "kind_at" "Weaver.kind_at" 71 1,
  dM "Weaver" "chain_of" "Weaver.chain_of" 71 2,
  dM "Weaver" "is_marked_behind" "Weaver.is_marked_behind" 71 3,
  dM "Weaver" "put_row" "Weaver.put_row" 71 4,
  dM "Weaver" "mark_row" "Weaver.mark_row" 71 5,
  dM "Weaver" "look_for" "Weaver.look_for" 71 6,
  dM "Weaver" "woven" "Weaver.woven" 71 7,
  dM "Watch" "__init__" "Watch.__init__" 53 0]
def faL : List He.Fa := [.glo "is_name",
  .glo "stands_in",
  .glo "check_fresh",
  .glo "kinds_of",
  .glo "column_rows_of",
  .glo "checks_of",
  .glo "menu_of",
  .glo "lacking",
  .glo "watch_of",
  .glo "checked_question",
  .glo "behind_all",
  .glo "table",
  .glo "way_to_fault",
  .glo "chain_up",
  .glo "put_chain",
  .glo "mark_by_chain",
  .glo "judge",
  .glo "_law_draw",
  .glo "_law_pick",
  .glo "_law_mixed",
  .glo "_law_same",
  .glo "_law_fresh",
  .glo "_law_names",
  .glo "_law_shape",
  .glo "_law_all_checks",
  .glo "_law_checked",
  .glo "_law_rules",
  .glo "_law_made",
  .glo "_law_by",
  .glo "_law_markable",
  .glo "_law_checks",
  .glo "_law_questions",
  .glo "_law_comes",
  .glo "law",
  .cls "Column",
  .cls "Book",
  .cls "KindWatch",
  .cls "ColumnWatch",
  .cls "Weaver",
  .meth "Column" "__init__",
  .meth "Book" "__init__",
  .meth "Book" "columns_of",
  .meth "Book" "markable",
  .meth "Book" "questions",
  .meth "Book" "__contains__",
  .meth "KindWatch" "has",
  .meth "KindWatch" "may_mark",
  .meth "KindWatch" "may_put",
  .meth "KindWatch" "with_letter",
  .meth "KindWatch" "list_labels",
  .meth "ColumnWatch" "has",
  .meth "ColumnWatch" "may_mark",
  .meth "ColumnWatch" "may_put",
  .meth "ColumnWatch" "with_letter",
  .meth "ColumnWatch" "list_labels",
  .meth "KindWatch" "__init__",
  .meth "KindWatch" "begin",
  .meth "KindWatch" "labels",
  .meth "KindWatch" "outcome",
  .meth "KindWatch" "is_fault",
  .meth "ColumnWatch" "begin",
  .meth "ColumnWatch" "labels",
  .meth "ColumnWatch" "first_other",
  .meth "ColumnWatch" "outcome",
  .meth "ColumnWatch" "may_refer",
  .meth "ColumnWatch" "put_behind",
  .meth "ColumnWatch" "turned",
  .meth "ColumnWatch" "marked_behind",
  .meth "ColumnWatch" "fitting",
  .meth "ColumnWatch" "looked",
  .meth "ColumnWatch" "done_behind",
  .meth "ColumnWatch" "is_fault",
  .meth "Weaver" "__init__",
  .meth "Weaver" "kind_at",
  .meth "Weaver" "chain_of",
  .meth "Weaver" "is_marked_behind",
  .meth "Weaver" "put_row",
  .meth "Weaver" "mark_row",
  .meth "Weaver" "look_for",
  .meth "Weaver" "woven",
  .noat "Column" "word",
  .noat "Column" "home",
  .noat "Column" "goal",
  .noat "Column" "rule",
  .noat "Book" "open_kinds",
  .noat "Book" "column_rows",
  .noat "Book" "column_table",
  .noat "Book" "all_checks",
  .noat "Book" "own_checks",
  .noat "KindWatch" "law_book",
  .noat "KindWatch" "home",
  .noat "KindWatch" "can_mark",
  .noat "KindWatch" "sorts",
  .noat "ColumnWatch" "law_book",
  .noat "ColumnWatch" "home",
  .noat "ColumnWatch" "can_mark",
  .noat "ColumnWatch" "sorts",
  .noat "ColumnWatch" "by",
  .noat "ColumnWatch" "goal",
  .noat "ColumnWatch" "other_column",
  .noat "Weaver" "watch",
  .noat "Weaver" "way",
  .noat "Weaver" "made",
  .noat "Weaver" "held",
  .noat "Weaver" "chains",
  .noat "Weaver" "unused",
  .mkr "Column",
  .glo "Column",
  .mkr "Book",
  .glo "Book",
  .mkr "KindWatch",
  .glo "KindWatch",
  .mkr "ColumnWatch",
  .glo "ColumnWatch",
  .mkr "Weaver",
  .glo "Weaver",
  .free "len",
  .free "isinstance",
  .free "str",
  .free "all",
  .free "list",
  .free "sorted",
  .free "range",
  .free "reversed",
  .free "tuple",
  .free "min",
  .free "int",
  .free "enumerate",
  .free "repr",
  .free "super",
  .str "FALL" "fall",
  .str "CLEAR" "clear",
  .str "STRUCK" "strike",
  .str "LETTERS" "abcdefghijklmnopqrstuvwxyz",
  .int "HELPER" 2,
  .glo "HERE",
  .glo "NUMBERS",
  .glo "Watch"]
def tsL : List He.Tab := [(fun K => He.ga K "NUMBERS", ["x", "y", "z"])]
def tfL : List He.Defn := [("table", none)]
abbrev fCW (K : PySem.W.Frag) : Addr := He.ma K (cW K) "__init__"
abbrev fWI (K : PySem.W.Frag) : Addr := He.ma K (He.ga K "Watch") "__init__"
/-! ### super()'s facts, isinstance's -/
def cellB (K : PySem.W.Frag) (cc C : Addr) : Bool := match K.lookup cc with
  | some ⟨_, _, .cell (some (.ref D)), _⟩ => decide (D = C)
  | _ => false
def fileB (K : PySem.W.Frag) (file : Str) (cda : Addr) : Bool := match K.lookup cda with
  | some ⟨_, _, .fields vs, _⟩ => (match (vs[2]? : Option Value) with
    | some (.str x _) => decide (x = file)
    | _ => false)
  | _ => false
def supC (K : PySem.W.Frag) (file : Str) : List (Str × Addr) → Value → Bool
  | [(_, cc)], .ref cda => cellB K cc (cW K) && (PySem.W.codeIn K (.ref cda) "ColumnWatch.__init__" && fileB K file cda)
  | _, _ => false
def supB (K : PySem.W.Frag) (file : Str) : Bool := match K.lookup (fCW K) with
  | some ⟨_, _, .func fd, _⟩ => supC K file fd.closure fd.code
  | _ => false
def isB (K : PySem.W.Frag) (C : Addr) : Bool := He.eqO (PySem.W.findIn K (.ref C) "__class__") (some (some (.builtin "object.__class__"))) && decide (PySem.W.mroIn K C (.type "object") = some true)
def exL (K : PySem.W.Frag) : Bool :=
  He.tupB K "HERE" [.str "plain", .str "marked", .str "other"] && (He.valsB K (He.ga K "NUMBERS") [("x", .int 0), ("y", .int 1), ("z", .int 2)] && (isB K (cK K) && (isB K (cW K) &&
  (He.eqO (PySem.W.specialIn K (.builtin "object.__class__") "__get__") (some (some (.builtin "getset_descriptor.__get__"))) && (decide (PySem.W.takesIn K (.builtin "object.__class__") = some true) && (decide (PySem.W.kitOne K (.ref (cK K)) (.ref (cW K)) = some false) &&
  (supB K LR.prog.main.file && ((PySem.W.clsIn K (cW K)).isSome && (decide (PySem.W.mroIn K (cW K) (.ref (cW K)) = some true) && (He.eqO (PySem.W.nsIn K cStatics "thirdparty.any") (some none) &&
  (He.eqO (PySem.W.ks_superIn K (cW K) (cW K) "__init__") (some (some (.ref (fWI K)))) && (decide (PySem.W.typeIn K (.ref (fWI K)) = some (.type "function")) && PySem.W.fnIn K (fWI K)))))))))))))
def isNoneV : Value → Bool
  | .none => true
  | _ => false
abbrev FnU : Type := Option (Str × Str × Arguments × FuncBody × Scope × Addr × List Str × Addr × Bool)
def fnU (K : PySem.W.Frag) : FnU := match K.lookup (fCW K) with
  | some ⟨_, _, .func fd, _⟩ => some (fd.name, fd.qualname, fd.params, fd.body, fd.scope, fd.globals, fd.closure.map (·.1), fd.builtins, isNoneV fd.defaults)
  | _ => none
def valU : FnU := some ("__init__", "ColumnWatch.__init__", C8.fnArgs (meth 55 0), .stmts (C8.fnBody (meth 55 0)), C8.fnScope (meth 55 0), mainGlobals, ["__class__"], builtinsNs, true)
/-! ### the Hook -/
def valA : Data → List Addr
  | .dict es _ => es.toList.flatMap fun e => He.refV e.val
  | _ => []
def datA (g : Addr → Option Obj) (a : Addr) : Data := match g a with
  | some ⟨_, _, d, _⟩ => d
  | none => .freed
def fnA : Data → List Addr
  | .func fd => He.refV fd.code ++ (He.refV fd.defaults ++ fd.closure.map (·.2))
  | _ => []
def clA (g : Addr → Option Obj) : Data → List Addr
  | .cls cd => cd.ns :: (valA (datA g cd.ns)).flatMap fun a => a :: fnA (datA g a)
  | _ => []
def asZ (g : Addr → Option Obj) (_ : Nat) : List Addr := mainGlobals :: cStatics :: (valA (datA g mainGlobals)).flatMap fun a => a :: (fnA (datA g a) ++ clA g (datA g a))
abbrev AlZ : Type := He.AlX × FnU
def obsK (g : Addr → Option Obj) (K : PySem.W.Frag) : AlZ := ((He.obsT faL fnL tsL K, exL K && He.tabsB g tfL K), fnU K)
def obsZ (n : Nat) (g : Addr → Option Obj) : AlZ := obsK g (He.frT g (asZ g n))
def valZ (w : World) : AlZ := (He.valX fnL tsL w, valU)
abbrev SaysL (w : World) (h : Heap) (K : PySem.W.Frag) : Prop := He.SaysX faL fnL tsL tfL exL w h K
theorem saysZ_of {n : Nat} {w : World} {h : Heap} (e : obsZ n h.get? = valZ w) : SaysL w h (He.frT h.get? (asZ h.get? n)) ∧ fnU (He.frT h.get? (asZ h.get? n)) = valU := by
  have e0 : (He.obsT faL fnL tsL (He.frT h.get? (asZ h.get? n)), exL (He.frT h.get? (asZ h.get? n)) && He.tabsB h.get? tfL (He.frT h.get? (asZ h.get? n))) = He.valX fnL tsL w := congrArg (fun z : AlZ => z.1) e
  refine ⟨?_, congrArg (fun z : AlZ => z.2) e⟩
  have e1 : He.obsT faL fnL tsL (He.frT h.get? (asZ h.get? n)) = He.valT fnL tsL w := congrArg (fun z : He.AlX => z.1) e0
  have e2 : (exL (He.frT h.get? (asZ h.get? n)) && He.tabsB h.get? tfL (He.frT h.get? (asZ h.get? n))) = true := congrArg (fun z : He.AlX => z.2) e0
  obtain ⟨h1, h2⟩ := He.ba e2
  have key : ∀ p ∈ tfL, PySem.W.codeHdIn (He.frT h.get? (asZ h.get? n)) (He.cT (He.frT h.get? (asZ h.get? n)) p).1 (He.cT (He.frT h.get? (asZ h.get? n)) p).2 = true ∧ ∃ o, h.get? (He.cT (He.frT h.get? (asZ h.get? n)) p).2 = some o ∧ He.emptyTab o = true := fun p hp => by
    obtain ⟨h3, h4⟩ := He.ba (List.all_eq_true.mp h2 p hp)
    refine ⟨h3, ?_⟩
    cases q : h.get? (He.cT (He.frT h.get? (asZ h.get? n)) p).2 with
    | none =>
      rw [q] at h4
      cases h4
    | some o =>
      rw [q] at h4
      exact ⟨o, rfl, h4⟩
  exact ⟨e1, h1, fun p hp => (key p hp).1, fun p hp => by
    obtain ⟨_, o, q, z⟩ := key p hp
    exact He.frT_none q z, fun p hp => by
    obtain ⟨_, o, q, z⟩ := key p hp
    rw [q, He.emptyTab_eq z]⟩
def hookZ (n : Nat) : PySem.W.Hook where
  α := AlZ
  obs := fun s => obsZ n s.heap.get?
  val := fun w => valZ w
  says := fun w h => ∃ K : PySem.W.Frag, K.In h ∧ SaysL w h K ∧ fnU K = valU
  of := fun _ _ e => ⟨_, He.frT_in, saysZ_of e⟩
  keeps := fun _ _ _ ⟨K, hK, c, u⟩ k => ⟨K, PySem.W.Frag.In.keeps hK k, ⟨c.t, c.more, c.hd, c.out, fun p hp => k _ _ (c.empty p hp)⟩, u⟩
theorem obsZ_eq {n : Nat} {g : Addr → Option Obj} {s : Shared} (h : ∀ a, g a = s.heap.get? a) : obsZ n g = (hookZ n).obs s := by
  have e : g = s.heap.get? := funext h
  rw [e] <;> rfl
end Ls
/-! LsRun -/
set_option Elab.async false
set_option linter.all false
set_option maxRecDepth 100000
set_option maxHeartbeats 0
namespace Ls
open PySem PySem.W PySem.Calls PyProof.Rows
/-! ### the top's run, looked at in three parts, for each answer of the one row that it asks -/
abbrev LRow : OpenRow := OpenLaw.row LR
abbrev qv : Program := view LRow.prog [103]
def names : List PySem.Str := LRow.prog.main.scope.names.filterMap fun p => if p.1 = ("law" : PySem.Str) then none else some p.1
def ob (s : SharedT) : AlZ := obsZ 5 (HandSHeadRun.getT s)
theorem ob_eq (s : SharedT) : ob s = (hookZ 5).obs s.abs := obsZ_eq (HandSHeadRun.getT_eq s)
noncomputable abbrev endS (w : World) (os : OsState) : Option SharedT := HandSHeadRun.endF (HandSHeadRun.stepQ (HandSHeadRun.denQ HandSHeadRun.tabQ) LRow.prog w) 12400 LRow.prog w os
abbrev KK (s : SharedT) : Frag := He.frT (HandSHeadRun.getT s) (asZ (HandSHeadRun.getT s) 5)
abbrev Run1 (w : World) (os : OsState) : Prop := (endS w os).map (fun s => (HandSHeadRun.looksF LRow.prog (boot_heap w.params) s.abs, HandSHeadRun.seenQ qv names (importedModules LRow.prog.main.body) (fun s => xlAt qv [] s && recOk LRow.toRowW.records s) s.abs, tsL.map (fun t => He.dicW (KK s) (t.1 (KK s))), exL (KK s) && He.tabsB (HandSHeadRun.getT s) tfL (KK s), fnU (KK s))) = some (true, openGood qv names, tsL.map (fun t => some (He.keysIn w.params t.2)), true, valU)
abbrev Run2 (w : World) (os : OsState) : Prop := (endS w os).map (fun s => faL.all fun f => f.ok (KK s)) = some true
abbrev Run3 (w : World) (os : OsState) : Prop := (endS w os).map (fun s => (fnL.all fun d => d.ok (KK s), fnL.map fun d => He.fnW (KK s) d.at_)) = some (true, fnL.map He.DefD.val)
theorem run1f (w : World) (os : OsState) : Run1 (w.withFollow "special-get-raises" false) os := by kernel_rfl
theorem run1t (w : World) (os : OsState) : Run1 (w.withFollow "special-get-raises" true) os := by kernel_rfl
theorem run2f (w : World) (os : OsState) : Run2 (w.withFollow "special-get-raises" false) os := by kernel_rfl
theorem run2t (w : World) (os : OsState) : Run2 (w.withFollow "special-get-raises" true) os := by kernel_rfl
theorem run3f (w : World) (os : OsState) : Run3 (w.withFollow "special-get-raises" false) os := by kernel_rfl
theorem run3t (w : World) (os : OsState) : Run3 (w.withFollow "special-get-raises" true) os := by kernel_rfl
end Ls
/-! LsMath -/
set_option Elab.async false
/-! The watch of a column over enumerated states: what is reachable, when a fault comes. Plain Lean. -/
namespace Lsm
inductive X5 where | new | plain | marked | other | gone deriving DecidableEq
inductive O3 where | no | y | z deriving DecidableEq
inductive Y4 where | new | plain | marked | gone deriving DecidableEq
inductive L10 where | e | a | x | y | aa | ax | ay | xx | xy | yy deriving DecidableEq
inductive Le where | a | x | y deriving DecidableEq
inductive Wr where | no | spoilt | unjust deriving DecidableEq
structure S where
  x : X5
  p : O3
  y : Y4
  z : Bool
  l : L10
  deriving DecidableEq
inductive Lb where | putY | putZ | putX (o : O3) | turn (o : O3) | markY | strikeX | markX | look (k : Le) | do_ (k : Le) | stop (k : Le) deriving DecidableEq
/-- the checks that the watch of a column feels, and what it feels of the book -/
structure Cf where
  fresh : Bool
  lone : Bool
  put : Bool
  turn : Bool
  keep : Bool
  hold : Bool
  agC : Bool
  bare : Bool
  calm : Bool
  agL : Bool
  agK : Bool
  opK : Bool
  opL : Bool
  mkL : Bool
  oth : Bool
  fall : Bool
def X5.isNew : X5 → Bool | .new => true | _ => false
def X5.isPlain : X5 → Bool | .plain => true | _ => false
def X5.isMarked : X5 → Bool | .marked => true | _ => false
def X5.isOther : X5 → Bool | .other => true | _ => false
def X5.isGone : X5 → Bool | .gone => true | _ => false
def X5.here : X5 → Bool | .plain => true | .marked => true | .other => true | _ => false
def O3.isNo : O3 → Bool | .no => true | _ => false
def O3.isY : O3 → Bool | .y => true | _ => false
def O3.isZ : O3 → Bool | .z => true | _ => false
def O3.same : O3 → O3 → Bool | .no, .no => true | .y, .y => true | .z, .z => true | _, _ => false
def Y4.isNew : Y4 → Bool | .new => true | _ => false
def Y4.isPlain : Y4 → Bool | .plain => true | _ => false
def Y4.isMarked : Y4 → Bool | .marked => true | _ => false
def Y4.isGone : Y4 → Bool | .gone => true | _ => false
def L10.isE : L10 → Bool | .e => true | _ => false
def L10.add : L10 → Le → Option L10
  | .e, .a => some .a | .e, .x => some .x | .e, .y => some .y
  | .a, .a => some .aa | .a, .x => some .ax | .a, .y => some .ay
  | .x, .a => some .ax | .x, .x => some .xx | .x, .y => some .xy
  | .y, .a => some .ay | .y, .x => some .xy | .y, .y => some .yy
  | _, _ => none
def L10.rem : L10 → Le → Option L10
  | .a, .a => some .e | .x, .x => some .e | .y, .y => some .e
  | .aa, .a => some .a | .ax, .a => some .x | .ay, .a => some .y
  | .ax, .x => some .a | .xx, .x => some .x | .xy, .x => some .y
  | .ay, .y => some .a | .xy, .y => some .x | .yy, .y => some .y
  | _, _ => none
/-- the letters of lists with one more, if there is room -/
def more (c : Cf) (l : L10) (k : Le) : Option L10 := if !l.isE && c.lone then none else l.add k
def mayMark (c : Cf) (l : L10) : Bool := c.mkL && (l.isE || !c.lone || c.opL)
def mayPutX (c : Cf) (x : X5) : Bool := x.isNew || (x.isGone && !c.fresh)
def mayPutY (c : Cf) (y : Y4) : Bool := y.isNew || (y.isGone && !c.fresh)
def refer (chk : Bool) (o : O3) (s : S) : Bool := match o with
  | .y => s.y.isPlain || (s.y.isMarked && !chk)
  | .no => true
  | .z => s.z
def fits (c : Cf) (k : Le) (s : S) : Bool := match k with
  | .x => s.x.isMarked || s.x.isOther
  | .a => (if c.fall then s.x.isPlain else s.x.here) && s.p.isY && s.y.isMarked
  | .y => !(!s.y.isMarked || (s.p.isY && s.x.here && c.bare)) && !(s.p.isY && s.x.isPlain && c.calm)
def ag (c : Cf) : Le → Bool | .a => c.agC | .x => c.agK | .y => c.agL
/-- what a do does, whose list is gone already, if nothing is looked at -/
def did (fall : Bool) (k : Le) (s : S) : S × Wr := match k with
  | .a => if fall then ({ s with x := if s.x.isPlain then .marked else s.x }, .no)
    else if !s.x.here || s.p.isNo then (s, .no) else ({ s with p := .no }, if s.p.isZ || s.y.isPlain then .spoilt else .no)
  | .y => ({ s with y := if s.y.isPlain || s.y.isMarked then .gone else s.y }, .no)
  | .x => if !s.x.here then (s, .no) else ({ s with x := .gone, p := .no }, if s.x.isMarked && !(s.p.isY && (s.y.isMarked || s.y.isGone)) then .unjust else .no)
def out (c : Cf) (lb : Lb) (s : S) : Option (S × Wr) := match lb with
  | .putY => if mayPutY c s.y then some ({ s with y := .plain }, .no) else none
  | .putZ => if !s.z then some ({ s with z := true }, .no) else none
  | .putX o => if mayPutX c s.x && refer c.put o s then some ({ s with x := .plain, p := o }, .no) else none
  | .turn o => if s.x.here && !o.same s.p && refer c.turn o s && !(!s.x.isPlain && c.hold) && !(s.p.isY && (s.y.isMarked || s.y.isGone) && c.keep) then some ({ s with p := o }, .no) else none
  | .markY => if s.y.isPlain && mayMark c s.l then some ({ s with y := .marked }, .no) else none
  | .strikeX => if c.opK && (s.x.isPlain || s.x.isMarked) then some ({ s with x := .other }, .no) else none
  | .markX => if s.x.isPlain && c.oth && (s.l.isE || !c.lone) then some ({ s with x := .other }, .no) else none
  | .look k => match more c s.l k with
    | none => none
    | some l => if fits c k s then some ({ s with l := l }, .no) else none
  | .do_ k => match s.l.rem k with
    | none => none
    | some l => let t : S := { s with l := l }; some (if ag c k && !fits c k t then (t, .no) else did c.fall k t)
  | .stop k => match s.l.rem k with
    | none => none
    | some l => some ({ s with l := l }, .no)
def s0 : S := ⟨.new, .no, .new, false, .e⟩
inductive Qn where | loose | half | wrong deriving DecidableEq
def lost (s : S) : Bool := s.p.isY && s.y.isGone
def Wr.isNo : Wr → Bool | .no => true | _ => false
def bad (q : Qn) (s : S) (w : Wr) : Bool := match q with
  | .loose => lost s && s.x.isPlain
  | .half => lost s && s.x.here
  | .wrong => !w.isNo
inductive Reach (c : Cf) : S → Prop where
  | start : Reach c s0
  | step {s t : S} {w : Wr} (lb : Lb) : Reach c s → out c lb s = some (t, w) → Reach c t
def Comes (c : Cf) (q : Qn) : Prop := ∃ s lb t w, Reach c s ∧ out c lb s = some (t, w) ∧ bad q t w = true

/-! ### the conditions -/
def late (c : Cf) : Bool := !c.agL && (!c.put || !c.turn || (!c.fresh && !c.lone))
/-- mkK: whether the home is markable -/
def cond (c : Cf) (mkK : Bool) : Qn → Bool
  | .loose => c.mkL && ((!c.bare && !c.calm) || late c)
  | .half => c.mkL && ((!c.bare && (!c.calm || mkK)) || late c)
  | .wrong => c.mkL && (if c.fall then (!c.keep && (!c.hold || !c.agC)) || (!c.fresh && (!c.bare || (!c.lone && (!c.agL || !c.agC))))
      else !c.agC && (!c.keep || !c.lone))

/-! ### fewer checks, more ways -/
structure Le' (w c : Cf) : Prop where
  fresh : w.fresh = true → c.fresh = true
  lone : w.lone = true → c.lone = true
  put : w.put = true → c.put = true
  turn : w.turn = true → c.turn = true
  keep : w.keep = true → c.keep = true
  hold : w.hold = true → c.hold = true
  agC : w.agC = true → c.agC = true
  bare : w.bare = true → c.bare = true
  calm : w.calm = true → c.calm = true
  agL : w.agL = true → c.agL = true
  agK : w.agK = true → c.agK = true
  opK : c.opK = true → w.opK = true
  opL : c.opL = true → w.opL = true
  mkL : c.mkL = true → w.mkL = true
  oth : c.oth = true → w.oth = true
  fall : c.fall = w.fall
section
variable {w c : Cf} (h : Le' w c)
include h
theorem fits_mono {k : Le} {s : S} (f : fits c k s = true) : fits w k s = true := by
  obtain ⟨_, _, _, _, _, _, _, h1, h2, _, _, _, _, _, _, h3⟩ := h
  cases k with
  | x => exact f
  | a => simpa [fits, ← h3] using f
  | y =>
    revert f h1 h2
    unfold fits
    cases w.bare <;> cases c.bare <;> cases w.calm <;> cases c.calm <;> cases s.p.isY <;> cases s.x.here <;> cases s.x.isPlain <;> cases s.y.isMarked <;> simp
theorem more_mono {k : Le} {l l' : L10} (f : more c l k = some l') : more w l k = some l' := by
  have h1 := h.lone
  revert f h1
  unfold more
  cases w.lone <;> cases c.lone <;> cases l.isE <;> simp
omit h in
theorem refer_mono {a b : Bool} (hab : a = true → b = true) {o : O3} {s : S} (f : refer b o s = true) : refer a o s = true := by
  revert f hab
  unfold refer
  cases o <;> cases a <;> cases b <;> cases s.y.isPlain <;> cases s.y.isMarked <;> simp
omit h in
theorem ite_mono {a b : Bool} (hab : a = true → b = true) {α : Type} {v r : α} (f : (if a = true then some v else none) = some r) : (if b = true then some v else none) = some r := by
  cases a with
  | false => cases f
  | true => rw [hab rfl]; exact f
theorem out_mono {lb : Lb} {s t : S} {r : Wr} (f : out c lb s = some (t, r)) : ∃ lb', out w lb' s = some (t, r) := by
  cases lb with
  | putY =>
    refine ⟨.putY, ite_mono ?_ f⟩
    have h1 := h.fresh
    unfold mayPutY
    generalize w.fresh = A at *
    generalize c.fresh = B at *
    cases A <;> cases B <;> simp_all
  | putZ => exact ⟨.putZ, f⟩
  | putX o =>
    refine ⟨.putX o, ite_mono ?_ f⟩
    have h1 := h.fresh
    have h2 := fun q => refer_mono h.put (o := o) (s := s) q
    unfold mayPutX
    generalize refer c.put o s = A at *
    generalize refer w.put o s = B at *
    generalize w.fresh = D at *
    generalize c.fresh = G at *
    cases A <;> cases B <;> cases D <;> cases G <;> simp_all
  | turn o =>
    refine ⟨.turn o, ite_mono ?_ f⟩
    have h1 := h.hold
    have h3 := h.keep
    have h2 := fun q => refer_mono h.turn (o := o) (s := s) q
    generalize refer c.turn o s = A at *
    generalize refer w.turn o s = B at *
    generalize (s.p.isY && (s.y.isMarked || s.y.isGone)) = D at *
    generalize w.hold = G at *
    generalize c.hold = J at *
    generalize w.keep = L at *
    generalize c.keep = M at *
    cases A <;> cases B <;> cases D <;> cases G <;> cases J <;> cases L <;> cases M <;> simp_all
  | markY =>
    refine ⟨.markY, ite_mono ?_ f⟩
    have h1 := h.lone
    have h2 := h.opL
    have h3 := h.mkL
    unfold mayMark
    generalize w.lone = A at *
    generalize c.lone = B at *
    generalize w.opL = D at *
    generalize c.opL = G at *
    generalize w.mkL = L at *
    generalize c.mkL = M at *
    cases A <;> cases B <;> cases D <;> cases G <;> cases L <;> cases M <;> simp_all
  | strikeX =>
    refine ⟨.strikeX, ite_mono ?_ f⟩
    have h1 := h.opK
    generalize w.opK = A at *
    generalize c.opK = B at *
    cases A <;> cases B <;> simp_all
  | markX =>
    refine ⟨.markX, ite_mono ?_ f⟩
    have h1 := h.lone
    have h2 := h.oth
    generalize w.lone = A at *
    generalize c.lone = B at *
    generalize w.oth = D at *
    generalize c.oth = G at *
    cases A <;> cases B <;> cases D <;> cases G <;> simp_all
  | look k =>
    refine ⟨.look k, ?_⟩
    unfold out at f ⊢
    simp only at f ⊢
    cases e : more c s.l k with
    | none => rw [e] at f; cases f
    | some l =>
      rw [e] at f
      rw [more_mono h e]
      simp only at f ⊢
      by_cases hf : fits c k s = true
      · rw [if_pos hf] at f
        rw [if_pos (fits_mono h hf)]
        exact f
      · rw [if_neg hf] at f
        cases f
  | do_ k =>
    unfold out at f
    simp only at f
    cases e : s.l.rem k with
    | none => rw [e] at f; cases f
    | some l =>
      rw [e] at f
      simp only at f
      by_cases hf : (ag c k && !fits c k { s with l := l }) = true
      · rw [if_pos hf] at f
        refine ⟨.stop k, ?_⟩
        unfold out
        simp only [e]
        exact f
      · rw [if_neg hf] at f
        refine ⟨.do_ k, ?_⟩
        unfold out
        simp only [e]
        have hw : ¬ (ag w k && !fits w k { s with l := l }) = true := by
          intro q
          apply hf
          rw [Bool.and_eq_true] at q ⊢
          refine ⟨?_, ?_⟩
          · have q1 := q.1
            cases k
            · exact h.agC q1
            · exact h.agK q1
            · exact h.agL q1
          · cases z : fits c k { s with l := l } with
            | false => rfl
            | true =>
              have := fits_mono h z
              rw [this] at q
              exact absurd q.2 (by decide)
        rw [if_neg hw, ← h.fall]
        exact f
  | stop k =>
    exact ⟨.stop k, f⟩
theorem comes_mono {q : Qn} (f : Comes c q) : Comes w q := by
  have reach : ∀ s, Reach c s → Reach w s := by
    intro s r
    induction r with
    | start => exact .start
    | step lb _ e ih =>
      obtain ⟨lb', e'⟩ := out_mono h e
      exact .step lb' ih e'
  obtain ⟨s, lb, t, r, hr, e, b⟩ := f
  obtain ⟨lb', e'⟩ := out_mono h e
  exact ⟨s, lb', t, r, reach s hr, e', b⟩
end

/-! ### what is never reached: closed sets, looked at by the kernel -/
def X5.ix : X5 → Nat | .new => 0 | .plain => 1 | .marked => 2 | .other => 3 | .gone => 4
def O3.ix : O3 → Nat | .no => 0 | .y => 1 | .z => 2
def Y4.ix : Y4 → Nat | .new => 0 | .plain => 1 | .marked => 2 | .gone => 3
def L10.ix : L10 → Nat | .e => 0 | .a => 1 | .x => 2 | .y => 3 | .aa => 4 | .ax => 5 | .ay => 6 | .xx => 7 | .xy => 8 | .yy => 9
def zix : Bool → Nat | false => 0 | true => 1
def ix (s : S) : Nat := (((s.x.ix * 3 + s.p.ix) * 4 + s.y.ix) * 2 + zix s.z) * 10 + s.l.ix
def allX : List X5 := [.new, .plain, .marked, .other, .gone]
def allO : List O3 := [.no, .y, .z]
def allY : List Y4 := [.new, .plain, .marked, .gone]
def allL : List L10 := [.e, .a, .x, .y, .aa, .ax, .ay, .xx, .xy, .yy]
def allK : List Le := [.a, .x, .y]
def allLb : List Lb := [.putY, .putZ, .putX .no, .putX .y, .putX .z, .turn .no, .turn .y, .turn .z, .markY, .strikeX, .markX, .look .a, .look .x, .look .y, .do_ .a, .do_ .x, .do_ .y, .stop .a, .stop .x, .stop .y]
theorem all_x (x : X5) : x ∈ allX := by cases x <;> decide
theorem all_o (x : O3) : x ∈ allO := by cases x <;> decide
theorem all_y (x : Y4) : x ∈ allY := by cases x <;> decide
theorem all_l (x : L10) : x ∈ allL := by cases x <;> decide
theorem all_z (x : Bool) : x ∈ [false, true] := by cases x <;> decide
theorem all_lb (l : Lb) : l ∈ allLb := by
  cases l with
  | putX o => cases o <;> decide
  | turn o => cases o <;> decide
  | look k => cases k <;> decide
  | do_ k => cases k <;> decide
  | stop k => cases k <;> decide
  | _ => decide
def chk (c : Cf) (q : Qn) (R : Nat) : Bool :=
  allX.all fun x => allO.all fun p => allY.all fun y => [false, true].all fun z => allL.all fun l =>
    !(R.testBit (ix ⟨x, p, y, z, l⟩)) || allLb.all fun lb => match out c lb ⟨x, p, y, z, l⟩ with
      | none => true
      | some (t, r) => R.testBit (ix t) && !bad q t r
theorem chk_ok {c : Cf} {q : Qn} {R : Nat} (h : chk c q R = true) {s : S} (hs : R.testBit (ix s) = true) {lb : Lb} {t : S} {r : Wr} (e : out c lb s = some (t, r)) : R.testBit (ix t) = true ∧ bad q t r = false := by
  unfold chk at h
  have h1 := List.all_eq_true.mp h s.x (all_x _)
  have h2 := List.all_eq_true.mp h1 s.p (all_o _)
  have h3 := List.all_eq_true.mp h2 s.y (all_y _)
  have h4 := List.all_eq_true.mp h3 s.z (all_z _)
  have h5 := List.all_eq_true.mp h4 s.l (all_l _)
  rw [Bool.or_eq_true] at h5
  rcases h5 with h5 | h5
  · have e1 : R.testBit (ix ⟨s.x, s.p, s.y, s.z, s.l⟩) = true := hs
    rw [e1] at h5
    cases h5
  · have h6 := List.all_eq_true.mp h5 lb (all_lb lb)
    have e1 : out c lb ⟨s.x, s.p, s.y, s.z, s.l⟩ = some (t, r) := e
    rw [e1] at h6
    have h7 : (R.testBit (ix t) && !bad q t r) = true := h6
    rw [Bool.and_eq_true] at h7
    refine ⟨h7.1, ?_⟩
    cases b : bad q t r with
    | false => rfl
    | true => rw [b] at h7; exact absurd h7.2 (by decide)
theorem none_of {c : Cf} {q : Qn} (R : Nat) (h0 : R.testBit (ix s0) = true) (h : chk c q R = true) : ¬ Comes c q := by
  have reach : ∀ s, Reach c s → R.testBit (ix s) = true := by
    intro s r
    induction r with
    | start => exact h0
    | step lb _ e ih => exact (chk_ok h ih e).1
  rintro ⟨s, lb, t, r, hr, e, b⟩
  rw [(chk_ok h (reach s hr) e).2] at b
  cases b
-- 0: 52 states
def w0 : Cf := ⟨false, false, false, false, false, false, false, false, false, false, false, true, true, false, true, false⟩
def r0 : Nat := 0x140501405000000000021400214000000000000214850000000000000002148521485000000000000000000000000000000000000000000000000000000000000000000000001400014000000000000014050000000000000000140501405000000000000000000000000000000000000000000000000000040100401
theorem n0_half : ¬ Comes w0 .half := none_of r0 (by decide +kernel) (by decide +kernel)
theorem n0_wrong : ¬ Comes w0 .wrong := none_of r0 (by decide +kernel) (by decide +kernel)
-- 1: 52 states
def w1 : Cf := ⟨false, false, false, false, false, false, false, false, false, false, false, true, true, false, true, true⟩
def r1 : Nat := 0x140501405000000000021400214000000000000214850000000000000002148521485000000000000000000000000000000000000000000000000000000000000000000000001400014000000000000014050000000000000000140501405000000000000000000000000000000000000000000000000000040100401
theorem n1_half : ¬ Comes w1 .half := none_of r1 (by decide +kernel) (by decide +kernel)
theorem n1_wrong : ¬ Comes w1 .wrong := none_of r1 (by decide +kernel) (by decide +kernel)
-- 2: 248 states
def w2 : Cf := ⟨false, false, false, false, false, false, false, true, false, true, false, true, true, true, true, false⟩
def r2 : Nat := 0x3c0fd3f4f03c0f014056bc00ffc006bc002140000000fffff6bdaf000006bdaffffff6bdaf2148500000000000000000000000000000000000000000000000000000000000003c00dfc0003c000140000000dff7f03c0f0000003c0fdff7f03c0f01405000000000000000000000000000000000000000002409826090240900401
theorem n2_half : ¬ Comes w2 .half := none_of r2 (by decide +kernel) (by decide +kernel)
-- 3: 172 states
def w3 : Cf := ⟨true, false, true, true, false, false, false, true, false, false, false, true, true, true, true, false⟩
def r3 : Nat := 0x3c0fd3f4f01405014056bc00ffc002140021400000002dcb721485000006bdaffffff214852148500000000000000000000000000000000000000000000000000000000000002c0096c0000400004000000004c13004010000002c0b96e5b0040100401000000000000000000000000000000000000000002409826090040100401
theorem n3_half : ¬ Comes w3 .half := none_of r3 (by decide +kernel) (by decide +kernel)
-- 4: 84 states
def w4 : Cf := ⟨false, true, true, true, false, false, false, true, false, false, false, true, true, true, true, false⟩
def r4 : Nat := 0x4010240900401004010140003c0001400014000000001c0701405000000140503c0f01405014050000000000000000000000000000000000000000000000000000000000000040002c0000400004000000000c0300401000000040102c0b0040100401000000000000000000000000000000000000000000401024090040100401
theorem n4_half : ¬ Comes w4 .half := none_of r4 (by decide +kernel) (by decide +kernel)
-- 5: 262 states
def w5 : Cf := ⟨false, false, false, false, false, false, false, false, true, true, false, true, true, true, true, false⟩
def r5 : Nat := 0x3c0fd3f4f03c0f014056bc00ffc006bc00214006bdaffffff6bdaf000006bdaffffff6bdaf2148500000000000000000000000000000000000000000000000000000000000003c00dfc0003c000140000000dff7f03c0f0000003c0fdff7f03c0f01405000000000000000000000000000000000000000002409826090240900401
theorem n5_loose : ¬ Comes w5 .loose := none_of r5 (by decide +kernel) (by decide +kernel)
-- 6: 194 states
def w6 : Cf := ⟨true, false, true, true, false, false, false, false, true, false, false, true, true, true, true, false⟩
def r6 : Nat := 0x3c0fd3f4f01405014056bc00ffc0021400214006bdaffffff21485000006bdaffffff214852148500000000000000000000000000000000000000000000000000000000000002c0096c0000400004000000004c13004010000002c0b96e5b0040100401000000000000000000000000000000000000000002409826090040100401
theorem n6_loose : ¬ Comes w6 .loose := none_of r6 (by decide +kernel) (by decide +kernel)
-- 7: 90 states
def w7 : Cf := ⟨false, true, true, true, false, false, false, false, true, false, false, true, true, true, true, false⟩
def r7 : Nat := 0x4010240900401004010140003c0001400014000140503c0f01405000000140503c0f01405014050000000000000000000000000000000000000000000000000000000000000040002c0000400004000000000c0300401000000040102c0b0040100401000000000000000000000000000000000000000000401024090040100401
theorem n7_loose : ¬ Comes w7 .loose := none_of r7 (by decide +kernel) (by decide +kernel)
-- 8: 349 states
def w8 : Cf := ⟨false, false, false, false, false, false, false, true, false, true, false, true, true, true, true, true⟩
def r8 : Nat := 0x3c0fd3f4f03c0f014056bc00ffc006bc002140000000fffff6bdaf000006bdaffffff6bdaf214856bc00fbc006bc000000000000fbfef6bdaf000006bdaffbfef6bdaf0000003c00dfc0003c000140000000dff7f03c0f0000003c0fdff7f03c0f01405000000000000000000000000000000000000000002409826090240900401
theorem n8_half : ¬ Comes w8 .half := none_of r8 (by decide +kernel) (by decide +kernel)
-- 9: 230 states
def w9 : Cf := ⟨true, false, true, true, false, false, false, true, false, false, false, true, true, true, true, true⟩
def r9 : Nat := 0x3c0fd3f4f01405014056bc00ffc002140021400000002dcb721485000006bdaffffff21485214856bc00fbc0000000000000000029ca700000000006bdaffbfef000000000002c0096c0000400004000000004c13004010000002c0b96e5b0040100401000000000000000000000000000000000000000002409826090040100401
theorem n9_half : ¬ Comes w9 .half := none_of r9 (by decide +kernel) (by decide +kernel)
-- 10: 113 states
def w10 : Cf := ⟨false, true, true, true, false, false, false, true, false, false, false, true, true, true, true, true⟩
def r10 : Nat := 0x4010240900401004010140003c0001400014000000001c0701405000000140503c0f01405014050140003400014000000000000014050140500000014050340d01405000000040002c0000400004000000000c0300401000000040102c0b0040100401000000000000000000000000000000000000000000401024090040100401
theorem n10_half : ¬ Comes w10 .half := none_of r10 (by decide +kernel) (by decide +kernel)
-- 11: 377 states
def w11 : Cf := ⟨false, false, false, false, false, false, false, false, true, true, false, true, true, true, true, true⟩
def r11 : Nat := 0x3c0fd3f4f03c0f014056bc00ffc006bc00214006bdaffffff6bdaf000006bdaffffff6bdaf214856bc00fbc006bc00000006bdaffbfef6bdaf000006bdaffbfef6bdaf0000003c00dfc0003c000140000000dff7f03c0f0000003c0fdff7f03c0f01405000000000000000000000000000000000000000002409826090240900401
theorem n11_loose : ¬ Comes w11 .loose := none_of r11 (by decide +kernel) (by decide +kernel)
-- 12: 274 states
def w12 : Cf := ⟨true, false, true, true, false, false, false, false, true, false, false, true, true, true, true, true⟩
def r12 : Nat := 0x3c0fd3f4f01405014056bc00ffc0021400214006bdaffffff21485000006bdaffffff21485214856bc00fbc0000000000006bdaffbfef00000000006bdaffbfef000000000002c0096c0000400004000000004c13004010000002c0b96e5b0040100401000000000000000000000000000000000000000002409826090040100401
theorem n12_loose : ¬ Comes w12 .loose := none_of r12 (by decide +kernel) (by decide +kernel)
-- 13: 125 states
def w13 : Cf := ⟨false, true, true, true, false, false, false, false, true, false, false, true, true, true, true, true⟩
def r13 : Nat := 0x4010240900401004010140003c0001400014000140503c0f01405000000140503c0f014050140501400034000140000000014050340d0140500000014050340d01405000000040002c0000400004000000000c0300401000000040102c0b0040100401000000000000000000000000000000000000000000401024090040100401
theorem n13_loose : ¬ Comes w13 .loose := none_of r13 (by decide +kernel) (by decide +kernel)
-- 14: 73 states
def w14 : Cf := ⟨false, false, false, false, false, false, false, false, true, true, false, false, true, true, false, false⟩
def r14 : Nat := 0x2c0096c0002c00004000000096e5b02c0b0000002c0b96e5b02c0b00401000000000000000000000000000000000000000002409826090240900401
theorem n14_half : ¬ Comes w14 .half := none_of r14 (by decide +kernel) (by decide +kernel)
-- 15: 55 states
def w15 : Cf := ⟨true, false, true, true, false, false, false, false, true, false, false, false, true, true, false, false⟩
def r15 : Nat := 0x2c0096c0000400004000000004c13004010000002c0b96e5b0040100401000000000000000000000000000000000000000002409826090040100401
theorem n15_half : ¬ Comes w15 .half := none_of r15 (by decide +kernel) (by decide +kernel)
-- 16: 34 states
def w16 : Cf := ⟨false, true, true, true, false, false, false, false, true, false, false, false, true, true, false, false⟩
def r16 : Nat := 0x40002c0000400004000000000c0300401000000040102c0b0040100401000000000000000000000000000000000000000000401024090040100401
theorem n16_half : ¬ Comes w16 .half := none_of r16 (by decide +kernel) (by decide +kernel)
-- 17: 208 states
def w17 : Cf := ⟨true, false, false, false, true, false, false, false, false, false, false, true, true, true, true, true⟩
def r17 : Nat := 0x3c0fd3f4f014050140563400e340021400214006bdaffffff21485000006358de378d2148521485000000000000000000006bdaffbfef0000000000000000000000000000000240082400004000040002c0b96e5b004010000002409826090040100401000000000000000000000000000000000000000002409826090040100401
theorem n17_wrong : ¬ Comes w17 .wrong := none_of r17 (by decide +kernel) (by decide +kernel)
-- 18: 92 states
def w18 : Cf := ⟨false, true, false, false, true, false, false, true, false, false, false, true, true, true, true, true⟩
def r18 : Nat := 0x401024090040100401014000340001400014000140503c0f0140500000014050340d0140501405000000000000000000000000001405000000000000000000000000000000004000240000400004000040102c0b004010000000401024090040100401000000000000000000000000000000000000000000401024090040100401
theorem n18_wrong : ¬ Comes w18 .wrong := none_of r18 (by decide +kernel) (by decide +kernel)
-- 19: 253 states
def w19 : Cf := ⟨false, false, false, false, true, false, true, true, false, true, false, true, true, true, true, true⟩
def r19 : Nat := 0x3c0fd3f4f03c0f014056bc00fbc006bc002140000000fffff6bdaf000006bdaffbfef6bdaf2148500000000000000000000000006bdaf00000000000000000000000000000003c00d3c0003c000140000000dff7f03c0f0000003c0fd3f4f03c0f01405000000000000000000000000000000000000000002409826090240900401
theorem n19_wrong : ¬ Comes w19 .wrong := none_of r19 (by decide +kernel) (by decide +kernel)
-- 20: 238 states
def w20 : Cf := ⟨true, false, false, false, false, true, true, false, false, false, false, true, true, true, true, true⟩
def r20 : Nat := 0x3c0fd3f4f01405014056bc00ffc0021400214006bdaffffff21485000006bdaffffff2148521485000000000000000000006bdaffbfef00000000000000000000000000000002c0096c00004000040002c0b96e5b004010000002c0b96e5b0040100401000000000000000000000000000000000000000002409826090040100401
theorem n20_wrong : ¬ Comes w20 .wrong := none_of r20 (by decide +kernel) (by decide +kernel)
-- 21: 98 states
def w21 : Cf := ⟨false, true, false, false, false, true, true, true, false, false, false, true, true, true, true, true⟩
def r21 : Nat := 0x4010240900401004010140003c0001400014000140503c0f01405000000140503c0f01405014050000000000000000000000000014050000000000000000000000000000000040002c0000400004000040102c0b00401000000040102c0b0040100401000000000000000000000000000000000000000000401024090040100401
theorem n21_wrong : ¬ Comes w21 .wrong := none_of r21 (by decide +kernel) (by decide +kernel)
-- 22: 262 states
def w22 : Cf := ⟨false, false, false, false, false, true, true, true, false, true, false, true, true, true, true, true⟩
def r22 : Nat := 0x3c0fd3f4f03c0f014056bc00ffc006bc002140000000fffff6bdaf000006bdaffffff6bdaf2148500000000000000000000000006bdaf00000000000000000000000000000003c00dfc0003c000140000000dff7f03c0f0000003c0fdff7f03c0f01405000000000000000000000000000000000000000002409826090240900401
theorem n22_wrong : ¬ Comes w22 .wrong := none_of r22 (by decide +kernel) (by decide +kernel)
-- 23: 270 states
def w23 : Cf := ⟨false, false, false, false, false, false, true, false, false, false, false, true, true, true, true, false⟩
def r23 : Nat := 0x3c0fd3f4f03c0f014056bc00ffc006bc00214006bdaffffff6bdaf000006bdaffffff6bdaf2148500000000000000000000000000000000000000000000000000000000000003c00dfc0003c000140003c0fdff7f03c0f0000003c0fdff7f03c0f01405000000000000000000000000000000000000000002409826090240900401
theorem n23_wrong : ¬ Comes w23 .wrong := none_of r23 (by decide +kernel) (by decide +kernel)
-- 24: 88 states
def w24 : Cf := ⟨false, true, false, false, true, false, false, false, false, false, false, true, true, true, true, false⟩
def r24 : Nat := 0x401024090040100401014000340001400014000140503c0f0140500000014050340d0140501405000000000000000000000000000000000000000000000000000000000000004000240000400004000040102c0b004010000000401024090040100401000000000000000000000000000000000000000000401024090040100401
theorem n24_wrong : ¬ Comes w24 .wrong := none_of r24 (by decide +kernel) (by decide +kernel)

/-! ### the conditions do not hold: no fault -/
theorem half_of_loose {c : Cf} (h : Comes c .loose) : Comes c .half := by
  obtain ⟨s, lb, t, w, hr, e, b⟩ := h
  refine ⟨s, lb, t, w, hr, e, ?_⟩
  have b1 : (lost t && t.x.isPlain) = true := b
  show (lost t && t.x.here) = true
  rw [Bool.and_eq_true] at b1 ⊢
  refine ⟨b1.1, ?_⟩
  have b2 := b1.2
  revert b2
  cases t.x <;> decide
/-- what a book of a column gives: the home is markable if it is open, by another column, or by this one; and only so -/
structure Fit (c : Cf) (mkK : Bool) : Prop where
  op : c.opK = true → mkK = true
  ot : c.oth = true → mkK = true
  fa : c.fall = true → c.mkL = true → mkK = true
  ol : c.opL = true → c.mkL = true
  by_ : mkK = true → c.opK = true ∨ c.oth = true ∨ (c.fall = true ∧ c.mkL = true)
section
variable {c : Cf} {mkK : Bool}
theorem late_no (h : late c = false) : c.agL = true ∨ (c.put = true ∧ c.turn = true ∧ c.fresh = true) ∨ (c.put = true ∧ c.turn = true ∧ c.lone = true) := by
  revert h
  unfold late
  cases c.agL <;> cases c.put <;> cases c.turn <;> cases c.fresh <;> cases c.lone <;> simp
theorem never_mk (h : c.mkL = false) (q : Qn) : ¬ Comes c q := by
  cases hf : c.fall with
  | false =>
    have l : Le' w0 c := by constructor <;> simp [w0, h, hf]
    cases q with
    | loose => exact fun z => n0_half (comes_mono l (half_of_loose z))
    | half => exact fun z => n0_half (comes_mono l z)
    | wrong => exact fun z => n0_wrong (comes_mono l z)
  | true =>
    have l : Le' w1 c := by constructor <;> simp [w1, h, hf]
    cases q with
    | loose => exact fun z => n1_half (comes_mono l (half_of_loose z))
    | half => exact fun z => n1_half (comes_mono l z)
    | wrong => exact fun z => n1_wrong (comes_mono l z)
theorem never_bare (hb : c.bare = true) (hl : late c = false) : ¬ Comes c .half := by
  rcases late_no hl with h | ⟨h1, h2, h3⟩ | ⟨h1, h2, h3⟩ <;> cases hf : c.fall
  · exact fun z => n2_half (comes_mono (by constructor <;> simp [w2, *]) z)
  · exact fun z => n8_half (comes_mono (by constructor <;> simp [w8, *]) z)
  · exact fun z => n3_half (comes_mono (by constructor <;> simp [w3, *]) z)
  · exact fun z => n9_half (comes_mono (by constructor <;> simp [w9, *]) z)
  · exact fun z => n4_half (comes_mono (by constructor <;> simp [w4, *]) z)
  · exact fun z => n10_half (comes_mono (by constructor <;> simp [w10, *]) z)
theorem never_calm (hb : c.calm = true) (hl : late c = false) : ¬ Comes c .loose := by
  rcases late_no hl with h | ⟨h1, h2, h3⟩ | ⟨h1, h2, h3⟩ <;> cases hf : c.fall
  · exact fun z => n5_loose (comes_mono (by constructor <;> simp [w5, *]) z)
  · exact fun z => n11_loose (comes_mono (by constructor <;> simp [w11, *]) z)
  · exact fun z => n6_loose (comes_mono (by constructor <;> simp [w6, *]) z)
  · exact fun z => n12_loose (comes_mono (by constructor <;> simp [w12, *]) z)
  · exact fun z => n7_loose (comes_mono (by constructor <;> simp [w7, *]) z)
  · exact fun z => n13_loose (comes_mono (by constructor <;> simp [w13, *]) z)
theorem never_still (hb : c.calm = true) (ho : c.opK = false) (ht : c.oth = false) (hf : c.fall = false) (hl : late c = false) : ¬ Comes c .half := by
  rcases late_no hl with h | ⟨h1, h2, h3⟩ | ⟨h1, h2, h3⟩
  · exact fun z => n14_half (comes_mono (by constructor <;> simp [w14, *]) z)
  · exact fun z => n15_half (comes_mono (by constructor <;> simp [w15, *]) z)
  · exact fun z => n16_half (comes_mono (by constructor <;> simp [w16, *]) z)
theorem never_unjust (hf : c.fall = true) (h1 : c.keep = true ∨ (c.hold = true ∧ c.agC = true)) (h2 : c.fresh = true ∨ (c.bare = true ∧ c.lone = true) ∨ (c.bare = true ∧ c.agL = true ∧ c.agC = true)) : ¬ Comes c .wrong := by
  rcases h1 with h | ⟨h, h'⟩ <;> rcases h2 with k | ⟨k, k'⟩ | ⟨k, k', k''⟩
  · exact fun z => n17_wrong (comes_mono (by constructor <;> simp [w17, *]) z)
  · exact fun z => n18_wrong (comes_mono (by constructor <;> simp [w18, *]) z)
  · exact fun z => n19_wrong (comes_mono (by constructor <;> simp [w19, *]) z)
  · exact fun z => n20_wrong (comes_mono (by constructor <;> simp [w20, *]) z)
  · exact fun z => n21_wrong (comes_mono (by constructor <;> simp [w21, *]) z)
  · exact fun z => n22_wrong (comes_mono (by constructor <;> simp [w22, *]) z)
theorem never_spoilt (hf : c.fall = false) (h1 : c.agC = true ∨ (c.keep = true ∧ c.lone = true)) : ¬ Comes c .wrong := by
  rcases h1 with h | ⟨h, h'⟩
  · exact fun z => n23_wrong (comes_mono (by constructor <;> simp [w23, *]) z)
  · exact fun z => n24_wrong (comes_mono (by constructor <;> simp [w24, *]) z)
theorem never_of (F : Fit c mkK) {q : Qn} (h : cond c mkK q = false) : ¬ Comes c q := by
  cases hm : c.mkL with
  | false => exact never_mk hm q
  | true =>
    cases q with
    | loose =>
      simp only [cond, hm, Bool.true_and, Bool.or_eq_false_iff] at h
      obtain ⟨h1, h2⟩ := h
      cases hb : c.bare with
      | true => exact fun z => never_bare hb h2 (half_of_loose z)
      | false =>
        cases hc : c.calm with
        | true => exact never_calm hc h2
        | false => rw [hb, hc] at h1; exact absurd h1 (by decide)
    | half =>
      simp only [cond, hm, Bool.true_and, Bool.or_eq_false_iff] at h
      obtain ⟨h1, h2⟩ := h
      cases hb : c.bare with
      | true => exact never_bare hb h2
      | false =>
        rw [hb] at h1
        cases hc : c.calm with
        | false => rw [hc] at h1; exact absurd h1 (by simp)
        | true =>
          rw [hc] at h1
          have hk : mkK = false := by simpa using h1
          subst hk
          refine never_still hc ?_ ?_ ?_ h2
          · cases e : c.opK with
            | false => rfl
            | true => exact absurd (F.op e) (by decide)
          · cases e : c.oth with
            | false => rfl
            | true => exact absurd (F.ot e) (by decide)
          · cases e : c.fall with
            | false => rfl
            | true => exact absurd (F.fa e hm) (by decide)
    | wrong =>
      simp only [cond, hm, Bool.true_and] at h
      cases hf : c.fall with
      | true =>
        rw [hf, if_pos rfl, Bool.or_eq_false_iff] at h
        refine never_unjust hf ?_ ?_
        · have h1 := h.1
          revert h1
          cases c.keep <;> cases c.hold <;> cases c.agC <;> simp
        · have h1 := h.2
          revert h1
          cases c.fresh <;> cases c.bare <;> cases c.lone <;> cases c.agL <;> cases c.agC <;> simp
      | false =>
        rw [hf, if_neg (by decide)] at h
        refine never_spoilt hf ?_
        revert h
        cases c.agC <;> cases c.keep <;> cases c.lone <;> simp
/-! ### the conditions hold: a way to the fault -/
theorem come {s t : S} {w : Wr} {q : Qn} (r : Reach c s) (lb : Lb) (e : out c lb s = some (t, w)) (b : bad q t w = true) : Comes c q := ⟨s, lb, t, w, r, e, b⟩
/-- a way, all steps at once -/
def walk (c : Cf) : List Lb → S → Option (S × Wr)
  | [], _ => none
  | [l], s => out c l s
  | l :: m :: r, s => match out c l s with
    | some (t, _) => walk c (m :: r) t
    | none => none
theorem walk_comes {q : Qn} : ∀ (ls : List Lb) (s : S), Reach c s → (∃ t w, walk c ls s = some (t, w) ∧ bad q t w = true) → Comes c q
  | [], _, _, ⟨_, _, e, _⟩ => nomatch e
  | [l], s, r, ⟨t, w, e, b⟩ => ⟨s, l, t, w, r, e, b⟩
  | l :: m :: ls, s, r, ⟨t, w, e, b⟩ => by
    unfold walk at e
    cases h : out c l s with
    | none => rw [h] at e; cases e
    | some v =>
      obtain ⟨u, x⟩ := v
      rw [h] at e
      exact walk_comes (m :: ls) u (.step l r h) ⟨t, w, e, b⟩
theorem go {q : Qn} (ls : List Lb) (h : (match walk c ls s0 with | some (t, w) => bad q t w | none => false) = true) : Comes c q := by
  refine walk_comes ls s0 .start ?_
  cases e : walk c ls s0 with
  | none => rw [e] at h; cases h
  | some v =>
    obtain ⟨t, w⟩ := v
    rw [e] at h
    exact ⟨t, w, rfl, h⟩
theorem once_of (F : Fit c mkK) {q : Qn} (h : cond c mkK q = true) : Comes c q := by
  obtain ⟨f1, f2, f3, f4, f5⟩ := F
  obtain ⟨fresh, lone, put, turn, keep, hold, agC, bare, calm, agL, agK, opK, opL, mkL, oth, fall⟩ := c
  have hm : mkL = true := by
    revert h
    unfold cond
    cases q <;> cases mkL <;> simp
  subst hm
  have hlate : late ⟨fresh, lone, put, turn, keep, hold, agC, bare, calm, agL, agK, opK, opL, true, oth, fall⟩ = true → Comes ⟨fresh, lone, put, turn, keep, hold, agC, bare, calm, agL, agK, opK, opL, true, oth, fall⟩ .loose := by
    intro hl
    unfold late at hl
    cases agL with
    | true => cases hl
    | false =>
      cases put with
      | false => exact go [.putY, .markY, .look .y, .putX .y, .do_ .y] (by cases lone <;> rfl)
      | true =>
        cases turn with
        | false => exact go [.putY, .putX .no, .markY, .look .y, .turn .y, .do_ .y] (by cases lone <;> rfl)
        | true =>
          cases fresh with
          | true => cases hl
          | false =>
            cases lone with
            | true => cases hl
            | false => exact go [.putY, .markY, .look .y, .look .y, .do_ .y, .putY, .putX .y, .do_ .y] rfl
  cases q with
  | loose =>
    unfold cond at h
    simp only [Bool.true_and, Bool.or_eq_true] at h
    rcases h with h | h
    · cases bare with
      | true => cases h
      | false =>
        cases calm with
        | true => cases h
        | false => exact go [.putY, .putX .y, .markY, .look .y, .do_ .y] (by cases lone <;> cases agL <;> rfl)
    · exact hlate h
  | half =>
    unfold cond at h
    simp only [Bool.true_and, Bool.or_eq_true] at h
    rcases h with h | h
    · cases bare with
      | true => cases h
      | false =>
        cases calm with
        | false => exact go [.putY, .putX .y, .markY, .look .y, .do_ .y] (by cases lone <;> cases agL <;> rfl)
        | true =>
          have hk : mkK = true := by simpa using h
          rcases f5 hk with e | e | ⟨e, _⟩
          · have e' : opK = true := e
            subst e'
            exact go [.putY, .putX .y, .strikeX, .markY, .look .y, .do_ .y] (by cases lone <;> cases agL <;> rfl)
          · have e' : oth = true := e
            subst e'
            exact go [.putY, .putX .y, .markX, .markY, .look .y, .do_ .y] (by cases lone <;> cases agL <;> rfl)
          · have e' : fall = true := e
            subst e'
            exact go [.putY, .putX .y, .markY, .look .a, .do_ .a, .look .y, .do_ .y] (by cases lone <;> cases agL <;> cases agC <;> rfl)
    · exact half_of_loose (hlate h)
  | wrong =>
    unfold cond at h
    cases fall with
    | false =>
      simp only [Bool.true_and, Bool.false_eq_true, if_false] at h
      cases agC with
      | true => cases h
      | false =>
        cases keep with
        | false => exact go [.putY, .putZ, .putX .y, .markY, .look .a, .turn .z, .do_ .a] (by cases lone <;> cases hold <;> rfl)
        | true =>
          cases lone with
          | true => cases h
          | false => exact go [.putY, .putZ, .putX .y, .markY, .look .a, .look .a, .do_ .a, .turn .z, .do_ .a] (by cases hold <;> rfl)
    | true =>
      simp only [Bool.true_and, if_true, Bool.or_eq_true] at h
      rcases h with h | h
      · cases keep with
        | true => cases h
        | false =>
          cases hold with
          | false => exact go [.putY, .putX .y, .markY, .look .a, .do_ .a, .turn .no, .look .x, .do_ .x] (by cases lone <;> cases agC <;> cases agK <;> rfl)
          | true =>
            cases agC with
            | true => cases h
            | false => exact go [.putY, .putX .y, .markY, .look .a, .turn .no, .do_ .a, .look .x, .do_ .x] (by cases lone <;> cases agK <;> rfl)
      · cases fresh with
        | true => cases h
        | false =>
          cases bare with
          | false => exact go [.putY, .putX .y, .markY, .look .a, .do_ .a, .look .y, .do_ .y, .putY, .look .x, .do_ .x] (by cases lone <;> cases agC <;> cases agK <;> cases agL <;> cases calm <;> rfl)
          | true =>
            cases lone with
            | true => cases h
            | false =>
              cases agL with
              | false => exact go [.putY, .markY, .look .y, .look .y, .do_ .y, .putY, .putX .y, .markY, .look .a, .do_ .a, .do_ .y, .putY, .look .x, .do_ .x] (by cases agC <;> cases agK <;> rfl)
              | true =>
                cases agC with
                | true => cases h
                | false => exact go [.putY, .putX .y, .markY, .look .a, .look .a, .do_ .a, .look .x, .do_ .x, .putX .no, .do_ .a, .look .x, .do_ .x] (by cases agK <;> rfl)
theorem comes_iff (F : Fit c mkK) (q : Qn) : Comes c q ↔ cond c mkK q = true :=
  ⟨fun z => by
    cases h : cond c mkK q with
    | true => rfl
    | false => exact absurd z (never_of F h), once_of F⟩
end
end Lsm
/-! LsX -/
set_option Elab.async false
set_option linter.all false
set_option maxRecDepth 100000
namespace Lx
open PySem PySem.Spec PyProof.Rows L2 Evl
/-! ### the syntax's own readings -/
def eT (X : Cx) (e : Expr) : TE := fun σ H Q => ∀ pins s, Inv X pins σ H s → wpAny (model X.prog X.w) X.A (eval e X.env) (EP X pins σ Q) X.xe s
def tT (X : Cx) (e : Expr) : TT := fun σ H Q => ∀ pins s, Inv X pins σ H s → wpAny (model X.prog X.w) X.A (isTrue e X.env (eval e X.env)) (TP X pins σ Q) X.xe s
def wT (X : Cx) (e : Expr) : TT := fun σ H Q => ∀ whole pins s, Inv X pins σ H s → wpAny (model X.prog X.w) X.A (isTrue e X.env whole) (TP X pins σ Q) X.xe s
def aT (X : Cx) (es : List Expr) : TA := fun σ H Q => ∀ (pos : Pos) pins s, Inv X pins σ H s → wpAny (model X.prog X.w) X.A (spliced (backTo pos (starEach es X.env))) (AP X pins σ Q) X.xe s
def sT (X : Cx) (st : Stmt) : TS := fun D σ H => ∀ pins s, Inv X pins σ H s → wpAny (model X.prog X.w) X.A (exec st X.env) (SP X pins D) X.xe s
def bT (X : Cx) (st : List Stmt) : TS := fun D σ H => ∀ pins s, Inv X pins σ H s → wpAny (model X.prog X.w) X.A (execs st X.env) (SP X pins D) X.xe s
section
variable {X : Cx} {e : Expr} {es : List Expr} {st : Stmt} {sts : List Stmt} {t : TE} {u : TT} {ta : TA} {ts : TS} {σ : L2.St} {H : Hp}
theorem peT : PE X e (eT X e) := ⟨fun pins s _ _ _ I h => h pins s I⟩
theorem ptT : PT X e (tT X e) := ⟨fun pins s _ _ _ I h => h pins s I⟩
theorem pwT : PW X e (wT X e) := ⟨fun w pins s _ _ _ I h => h w pins s I⟩
theorem paT : PA X es (aT X es) := ⟨fun pos pins s _ _ _ I h => h pos pins s I⟩
theorem psT : PS X st (sT X st) := ⟨fun pins s _ _ _ I h => h pins s I⟩
theorem pbT : PSs X sts (bT X sts) := ⟨fun pins s _ _ _ I h => h pins s I⟩
theorem we {Q : VK} (p : PE X e t) (h : t σ H Q) : eT X e σ H Q := fun pins s I => p.run pins s σ H Q I h
theorem wt {Q : Bool → Hp → Prop} (p : PT X e u) (h : u σ H Q) : tT X e σ H Q := fun pins s I => p.run pins s σ H Q I h
theorem ww {Q : Bool → Hp → Prop} (p : PW X e u) (h : u σ H Q) : wT X e σ H Q := fun w pins s I => p.run w pins s σ H Q I h
theorem wa {Q : List V → Hp → Prop} (p : PA X es ta) (h : ta σ H Q) : aT X es σ H Q := fun pos pins s I => p.run pos pins s σ H Q I h
theorem ws {D : Ends} (p : PS X st ts) (h : ts D σ H) : sT X st D σ H := fun pins s I => p.run pins s σ H D I h
theorem wb {D : Ends} (p : PSs X sts ts) (h : ts D σ H) : bT X sts D σ H := fun pins s I => p.run pins s σ H D I h
theorem b_cons {D : Ends} (h : sT X st { D with nx := fun σ H => bT X sts D σ H } σ H) : bT X (st :: sts) D σ H := wb (pss_cons psT pbT) h
theorem b_nil {D : Ends} (h : D.nx σ H) : bT X [] D σ H := wb pss_nil h
/-- what evaluates to a thing of which P is true -/
def EvP (te : TE) (σ : L2.St) (H : Hp) (P : V → Hp → Prop) : Prop := ∀ H1, Ex H H1 → ∀ Q : VK, (∀ v H2, Ex H1 H2 → P v H2 → Q v H2) → te σ H1 Q
abbrev XE (X : Cx) (e : Expr) (σ : L2.St) (H : Hp) (v : V) : Prop := Ev (eT X e) σ H v
abbrev XL (X : Cx) (e : Expr) (σ : L2.St) (H : Hp) (xs : List V) : Prop := EvL (eT X e) σ H xs
abbrev XU (X : Cx) (e : Expr) (σ : L2.St) (H : Hp) (xs : List V) : Prop := EvU (eT X e) σ H xs
abbrev XP (X : Cx) (e : Expr) (σ : L2.St) (H : Hp) (P : V → Hp → Prop) : Prop := EvP (eT X e) σ H P
abbrev XT (X : Cx) (e : Expr) (σ : L2.St) (H : Hp) (b : Bool) : Prop := EvT (tT X e) σ H b
abbrev XW (X : Cx) (e : Expr) (σ : L2.St) (H : Hp) (b : Bool) : Prop := EvT (wT X e) σ H b
abbrev XA (X : Cx) (es : List Expr) (σ : L2.St) (H : Hp) (vs : List V) : Prop := EvA (aT X es) σ H vs
/-- the rest of a body, wherever the heap stands -/
def XS (X : Cx) (sts : List Stmt) (D : Ends) (σ : L2.St) (H : Hp) : Prop := ∀ H1, Ex H H1 → bT X sts D σ H1
variable {v : V} {xs : List V} {P : V → Hp → Prop} {b : Bool} {vs : List V}
theorem xe (p : PE X e t) (h : Ev t σ H v) : XE X e σ H v := fun H1 a Q q => we p (h H1 a Q q)
theorem xl (p : PE X e t) (h : EvL t σ H xs) : XL X e σ H xs := fun H1 a Q q => we p (h H1 a Q q)
theorem xu (p : PE X e t) (h : EvU t σ H xs) : XU X e σ H xs := fun H1 a Q q => we p (h H1 a Q q)
theorem xp (p : PE X e t) (h : EvP t σ H P) : XP X e σ H P := fun H1 a Q q => we p (h H1 a Q q)
theorem xt (p : PT X e u) (h : EvT u σ H b) : XT X e σ H b := fun H1 a Q q => wt p (h H1 a Q q)
theorem xw (p : PW X e u) (h : EvT u σ H b) : XW X e σ H b := fun H1 a Q q => ww p (h H1 a Q q)
theorem xa (p : PA X es ta) (h : EvA ta σ H vs) : XA X es σ H vs := fun H1 a Q q => wa p (h H1 a Q q)
theorem XS.mono {D : Ends} {H' : Hp} (h : XS X sts D σ H) (e : Ex H H') : XS X sts D σ H' := fun H1 a => h H1 (e.trans a)
theorem XS.run {D : Ends} (h : XS X sts D σ H) : bT X sts D σ H := h H (Ex.refl H)

/-! ### expressions -/
variable {a c d : Expr} {rest : List Expr} {pos p1 p2 : Pos} {x y z : V} {i j : Int} {n : Nat} {f : Str} {ad C dx : Addr} {fs : List (Str × V)} {ys : List V}
theorem x_var (i : Nat) {x : Str} (h : σ[i]? = some (some v) := by rfl) (hN : X.N[i]? = some x := by rfl) (hv : Vis X.env.scope x := by first | exact Or.inl rfl | exact Or.inr (Or.inl rfl) | exact Or.inr (Or.inr rfl))
    (hd : (x == ("__debug__" : Str)) = false := by decide) (hcd : (x == ("__classdict__" : Str)) = false := by decide) : XE X (.Name x pos) σ H v := xe (pe_var hN hv hd hcd) (ev_var h)
theorem x_int {k : Nat} : XE X (.Constant (.int i) k pos) σ H (.int i) := xe pe_int ev_c
theorem x_bl {k : Nat} : XE X (.Constant (.bool b) k pos) σ H (.bl b) := xe pe_bl ev_c
theorem x_non {k : Nat} : XE X (.Constant .none k pos) σ H .non := xe pe_non ev_c
theorem x_str {s : Str} {k : Nat} : XE X (.Constant (.str s) k pos) σ H (.str s) := xe pe_str ev_c
theorem x_glob {s : Str} {w : Value} (hm : X.mg s = some w) (r : RelV v w) (hg : Gl X s := by rfl) (hd : (s == ("__debug__" : Str)) = false := by decide) : XE X (.Name s pos) σ H v := xe (pe_glob hg hm r hd) ev_c
theorem x_op {op : Operator} {r : R2} (ho : OpR X (binaryOp op) r) (ha : XE X a σ H x) (hb : XE X c σ H y) (hr : RV r x y H z) : XE X (.BinOp a op c pos) σ H z := xe (pe_op ho peT peT) (ev_op ha hb hr)
theorem x_cmp {op : CmpOp} {r : R2} (ho : OpR X (compareOp op) r) (ha : XE X a σ H x) (hb : XE X c σ H y) (hr : RV r x y H z) (hm : behindInMarks op c = false) : XE X (.Compare a [op] [c] pos) σ H z := xe (pe_cmpR ho peT peT hm) (ev_op ha hb hr)
theorem t_cmp {op : CmpOp} {r : R2} {b : Bool} (ho : OpR X (compareOp op) r) (ha : XE X a σ H x) (hb : XE X c σ H y) (hr : RV r x y H (.bl b)) (hm : behindInMarks op c = false) : XT X (.Compare a [op] [c] pos) σ H b := xt (pt_cmpR ho peT peT hm) (et_test (ev_op ha hb hr))
theorem x_add (ha : XE X a σ H (.int i)) (hb : XE X c σ H (.int j)) : XE X (.BinOp a .Add c pos) σ H (.int (i + j)) := x_op op_add ha hb rv_I0
theorem x_sub (ha : XE X a σ H (.int i)) (hb : XE X c σ H (.int j)) : XE X (.BinOp a .Sub c pos) σ H (.int (i - j)) := x_op op_sub ha hb rv_I0
theorem x_adds {s u : Str} (ha : XE X a σ H (.str s)) (hb : XE X c σ H (.str u)) (hl : s.length + u.length ≤ 100000) : XE X (.BinOp a .Add c pos) σ H (.str (s ++ u)) := x_op op_add_str ha hb fun H1 _ _ q => ⟨s, u, rfl, rfl, sz_of hl, q H1 (Ex.refl H1)⟩
theorem x_eq (ha : XE X a σ H x) (hb : XE X c σ H y) (hs : scal x y = true := by rfl) : XE X (.Compare a [.Eq] [c] pos) σ H (.bl (decide (x = y))) := x_cmp op_eq ha hb (rv_eq hs) (nomark _)
theorem t_eq (ha : XE X a σ H x) (hb : XE X c σ H y) (hs : scal x y = true := by rfl) : XT X (.Compare a [.Eq] [c] pos) σ H (decide (x = y)) := t_cmp op_eq ha hb (rv_eq hs) (nomark _)
theorem x_ne (ha : XE X a σ H x) (hb : XE X c σ H y) (hs : scal x y = true := by rfl) : XE X (.Compare a [.NotEq] [c] pos) σ H (.bl (!decide (x = y))) := x_cmp op_ne ha hb (rv_ne hs) (nomark _)
theorem t_ne (ha : XE X a σ H x) (hb : XE X c σ H y) (hs : scal x y = true := by rfl) : XT X (.Compare a [.NotEq] [c] pos) σ H (!decide (x = y)) := t_cmp op_ne ha hb (rv_ne hs) (nomark _)
theorem rv_isN : RV (fun x y H Q => y = .non ∧ Q (.bl (decide (x = .non))) H) x .non H (.bl (decide (x = .non))) := fun H1 _ _ q => ⟨rfl, q H1 (Ex.refl H1)⟩
theorem rv_notN : RV (fun x y H Q => y = .non ∧ Q (.bl (!decide (x = .non))) H) x .non H (.bl (!decide (x = .non))) := fun H1 _ _ q => ⟨rfl, q H1 (Ex.refl H1)⟩
theorem x_isN (ha : XE X a σ H x) (hb : XE X c σ H .non) : XE X (.Compare a [.Is] [c] pos) σ H (.bl (decide (x = .non))) := x_cmp op_isN ha hb rv_isN (nomark _)
theorem t_isN (ha : XE X a σ H x) (hb : XE X c σ H .non) : XT X (.Compare a [.Is] [c] pos) σ H (decide (x = .non)) := t_cmp op_isN ha hb rv_isN (nomark _)
theorem x_notN (ha : XE X a σ H x) (hb : XE X c σ H .non) : XE X (.Compare a [.IsNot] [c] pos) σ H (.bl (!decide (x = .non))) := x_cmp op_notN ha hb rv_notN (nomark _)
theorem t_notN (ha : XE X a σ H x) (hb : XE X c σ H .non) : XT X (.Compare a [.IsNot] [c] pos) σ H (!decide (x = .non)) := t_cmp op_notN ha hb rv_notN (nomark _)
/-- x in t, t a list or a tuple of texts (of flat things) -/
theorem x_inT {xs : List V} (ha : XE X a σ H x) (hb : XE X c σ H (.ref ad)) (h : SqT X.K H ad xs) (hx : flatV x = true) (hf : xs.all flatV = true) (hm : behindInMarks .In c = false) : XE X (.Compare a [.In] [c] pos) σ H (.bl (inV x xs)) := x_cmp op_in_seq ha hb (rv_isT h hx hf) hm
theorem t_inT {xs : List V} (ha : XE X a σ H x) (hb : XE X c σ H (.ref ad)) (h : SqT X.K H ad xs) (hx : flatV x = true) (hf : xs.all flatV = true) (hm : behindInMarks .In c = false) : XT X (.Compare a [.In] [c] pos) σ H (inV x xs) := t_cmp op_in_seq ha hb (rv_isT h hx hf) hm
theorem x_niT {xs : List V} (ha : XE X a σ H x) (hb : XE X c σ H (.ref ad)) (h : SqT X.K H ad xs) (hx : flatV x = true) (hf : xs.all flatV = true) (hm : behindInMarks .NotIn c = false) : XE X (.Compare a [.NotIn] [c] pos) σ H (.bl (!inV x xs)) := x_cmp op_notIn_seq ha hb (rv_niT h hx hf) hm
theorem t_niT {xs : List V} (ha : XE X a σ H x) (hb : XE X c σ H (.ref ad)) (h : SqT X.K H ad xs) (hx : flatV x = true) (hf : xs.all flatV = true) (hm : behindInMarks .NotIn c = false) : XT X (.Compare a [.NotIn] [c] pos) σ H (!inV x xs) := t_cmp op_notIn_seq ha hb (rv_niT h hx hf) hm
theorem x_inL {xs : List V} (ha : XE X a σ H x) (hb : XE X c σ H (.ref ad)) (h : SqL X.K H ad xs) (hx : flatV x = true) (hf : xs.all flatV = true) (hm : behindInMarks .In c = false) : XE X (.Compare a [.In] [c] pos) σ H (.bl (inV x xs)) := x_cmp op_in_seq ha hb (rv_isL h hx hf) hm
theorem t_inL {xs : List V} (ha : XE X a σ H x) (hb : XE X c σ H (.ref ad)) (h : SqL X.K H ad xs) (hx : flatV x = true) (hf : xs.all flatV = true) (hm : behindInMarks .In c = false) : XT X (.Compare a [.In] [c] pos) σ H (inV x xs) := t_cmp op_in_seq ha hb (rv_isL h hx hf) hm
theorem x_niL {xs : List V} (ha : XE X a σ H x) (hb : XE X c σ H (.ref ad)) (h : SqL X.K H ad xs) (hx : flatV x = true) (hf : xs.all flatV = true) (hm : behindInMarks .NotIn c = false) : XE X (.Compare a [.NotIn] [c] pos) σ H (.bl (!inV x xs)) := x_cmp op_notIn_seq ha hb (rv_niL h hx hf) hm
/-- x in (a, b), the tuple displayed -/
theorem x_inU {xs : List V} (ha : XE X a σ H x) (hb : XU X c σ H xs) (hx : flatV x = true := by rfl) (hf : xs.all flatV = true := by rfl) (hm : behindInMarks .In c = false := by rfl) : XE X (.Compare a [.In] [c] pos) σ H (.bl (inV x xs)) := xe (pe_cmpR op_in_seq peT peT hm) (ev_inU ha hb hx hf)
theorem t_inU {xs : List V} (ha : XE X a σ H x) (hb : XU X c σ H xs) (hx : flatV x = true := by rfl) (hf : xs.all flatV = true := by rfl) (hm : behindInMarks .In c = false := by rfl) : XT X (.Compare a [.In] [c] pos) σ H (inV x xs) := xt (pt_cmpR op_in_seq peT peT hm) (et_test (ev_inU ha hb hx hf))
theorem x_fld (ha : XE X a σ H (.ref ad)) (ho : H ad = some (.ins C dx fs)) (hc : Cls X.K C) (hn : NoAttr X.K C f) (hl : fs.lookup f = some v) (hb : attributeBase a f X.env (eval a X.env) = eval a X.env := by rfl) : XE X (.Attribute a f pos) σ H v :=
  xe (pe_fld peT hb) fun H1 e Q q => ha H1 e _ fun H2 e2 => ⟨ad, C, dx, fs, v, rfl, e2 _ _ (e _ _ ho), hc, hn, hl, q H2 e2⟩
/-- t[n], xs[n], n written -/
theorem x_ixT {xs : List V} (ha : XE X a σ H (.ref ad)) (hb : XE X c σ H (.int i)) (h : SqT X.K H ad xs) (hi : atI xs i = some v) (hs : PlainIx c := by intro _ _; rfl) : XE X (.Subscript a c pos) σ H v := xe (pe_ix ix_tup peT peT hs) (ev_op ha hb (rv_ixT h hi))
theorem x_ixL {xs : List V} (ha : XE X a σ H (.ref ad)) (hb : XE X c σ H (.int i)) (h : SqL X.K H ad xs) (hi : atI xs i = some v) (hs : PlainIx c := by intro _ _; rfl) : XE X (.Subscript a c pos) σ H v := xe (pe_ix ix_list peT peT hs) (ev_op ha hb (rv_ixL h hi))
theorem x_ifE {b : Bool} (h : XT X d σ H b) (h1 : b = true → XE X a σ H v) (h2 : b = false → XE X c σ H v) : XE X (.IfExp d a c pos) σ H v := xe (pe_ifExp ptT peT peT) (ev_if h h1 h2)
theorem x_not {b : Bool} (h : XE X a σ H (.bl b)) : XE X (.UnaryOp .Not a pos) σ H (.bl (!b)) := xe (pe_not peT) (ev_notV h)
theorem t_not {b : Bool} (h : XT X a σ H b) : XT X (.UnaryOp .Not a pos) σ H (!b) := xt (pt_not ptT) (et_not h)
theorem x_one {op : BoolOp} (h : XE X a σ H v) : XE X (.BoolOp op [a] pos) σ H v := xe (pe_one peT) h
theorem x_and {b b' : Bool} (h1 : XE X a σ H (.bl b)) (h2 : b = true → XE X (.BoolOp .And (c :: rest) pos) σ H (.bl b')) : XE X (.BoolOp .And (a :: c :: rest) pos) σ H (.bl (b && b')) := xe (pe_and peT peT) (ev_andV h1 h2)
theorem x_or {b b' : Bool} (h1 : XE X a σ H (.bl b)) (h2 : b = false → XE X (.BoolOp .Or (c :: rest) pos) σ H (.bl b')) : XE X (.BoolOp .Or (a :: c :: rest) pos) σ H (.bl (b || b')) := xe (pe_or peT peT) (ev_orV h1 h2)
theorem w_and1 {b : Bool} (h : XT X a σ H b) : XW X (.BoolOp .And [a] pos) σ H b := xw (pw_and1 ptT) h
theorem w_or1 {b : Bool} (h : XT X a σ H b) : XW X (.BoolOp .Or [a] pos) σ H b := xw (pw_or1 ptT) h
theorem w_and {b b' : Bool} (h1 : XT X a σ H b) (h2 : b = true → XW X (.BoolOp .And (c :: rest) pos) σ H b') : XW X (.BoolOp .And (a :: c :: rest) pos) σ H (b && b') := xw (pw_and ptT pwT) (et_and h1 h2)
theorem w_or {b b' : Bool} (h1 : XT X a σ H b) (h2 : b = false → XW X (.BoolOp .Or (c :: rest) pos) σ H b') : XW X (.BoolOp .Or (a :: c :: rest) pos) σ H (b || b') := xw (pw_or ptT pwT) (et_or h1 h2)
theorem t_w {b : Bool} (h : XW X a σ H b) : XT X a σ H b := xt (pwT.pt) h
theorem t_val {b : Bool} (h : XE X a σ H (.bl b)) (he : ∀ whole, isTrue a X.env whole = (do let v ← whole; standAt a.pos; holding [v] (truthy v)) := by intro _; rfl) : XT X a σ H b := xt (pt_val peT he) (et_B h)
theorem x_anil : XA X [] σ H [] := xa pa_nil ea_nil
theorem x_acons (h : XE X a σ H v) (h2 : XA X rest σ H vs) (hs : starEach (a :: rest) X.env = (false, eval a X.env) :: starEach rest X.env := by rfl) : XA X (a :: rest) σ H (v :: vs) := xa (pa_cons peT paT hs) (ea_cons h h2)
theorem x_tup {y1} (h : XA X es σ H vs) (hl : vs.length ≤ 100000 := by exact Nat.le_of_ble_eq_true rfl) : XU X (.Tuple es y1 pos) σ H vs := xu (pe_tup paT) (eu_tup h hl)
theorem x_lst (h : XA X es σ H vs) (hl : vs.length ≤ 100000 := by exact Nat.le_of_ble_eq_true rfl) : XL X (.List es pos) σ H vs := xl (pe_lst paT) (el_lst h hl)
theorem x_is {w : V} (h : XE X a σ H v) (e : v = w) : XE X a σ H w := ev_is h e
theorem t_is {b b' : Bool} (h : XT X a σ H b) (e : b = b') : XT X a σ H b' := et_is h e
/-! ### from exact values, lists, tuples to what is true of them -/
theorem xp_e (h : XE X a σ H v) : XP X a σ H (fun w _ => w = v) := fun H1 e Q q => h H1 e Q fun H2 e2 => q v H2 e2 rfl
theorem xp_l (h : XL X a σ H xs) : XP X a σ H (fun w H2 => ∃ p, w = .ref p ∧ H2 p = some (.lst xs)) := fun H1 e Q q => h H1 e Q fun p H2 _ e2 h2 => q _ H2 e2 ⟨p, rfl, h2⟩
theorem xp_u (h : XU X a σ H xs) : XP X a σ H (fun w H2 => ∃ p, w = .ref p ∧ H2 p = some (.tup xs)) := fun H1 e Q q => h H1 e Q fun p H2 _ e2 h2 => q _ H2 e2 ⟨p, rfl, h2⟩
theorem xp_imp {P P' : V → Hp → Prop} (h : XP X a σ H P) (i : ∀ v H2, Ex H H2 → P v H2 → P' v H2) : XP X a σ H P' := fun H1 e Q q => h H1 e Q fun v H2 e2 p => q v H2 e2 (i v H2 (e.trans e2) p)
theorem xp_mono {P : V → Hp → Prop} {H' : Hp} (h : XP X a σ H P) (e : Ex H H') : XP X a σ H' P := fun H1 e1 Q q => h H1 (e.trans e1) Q q
theorem xp_ifE {b : Bool} {P : V → Hp → Prop} (h : XT X d σ H b) (h1 : b = true → XP X a σ H P) (h2 : b = false → XP X c σ H P) : XP X (.IfExp d a c pos) σ H P :=
  xp (pe_ifExp ptT peT peT) fun H1 e Q q => h H1 e _ fun H2 e2 => by
    cases b with
    | true => exact h1 rfl H2 (e.trans e2) Q fun v H3 e3 => q v H3 (e2.trans e3)
    | false => exact h2 rfl H2 (e.trans e2) Q fun v H3 e3 => q v H3 (e2.trans e3)
/-- argument lists of things of which something is true: one after another -/
def EvAP (ta : TA) (σ : L2.St) (H : Hp) (P : List V → Hp → Prop) : Prop := ∀ H1, Ex H H1 → ∀ Q : List V → Hp → Prop, (∀ vs H2, Ex H1 H2 → P vs H2 → Q vs H2) → ta σ H1 Q
abbrev XAP (X : Cx) (es : List Expr) (σ : L2.St) (H : Hp) (P : List V → Hp → Prop) : Prop := EvAP (aT X es) σ H P
theorem xap_nil : XAP X [] σ H (fun vs _ => vs = []) := fun H1 _ Q q => wa pa_nil (q [] H1 (Ex.refl H1) rfl)
theorem xap_cons {P : V → Hp → Prop} {R : List V → Hp → Prop} (h : XP X a σ H P) (h2 : XAP X rest σ H R) (m : ∀ v H1 H2, Ex H1 H2 → P v H1 → P v H2) (hs : starEach (a :: rest) X.env = (false, eval a X.env) :: starEach rest X.env := by rfl) :
    XAP X (a :: rest) σ H (fun vs H2 => ∃ v r, vs = v :: r ∧ P v H2 ∧ R r H2) := fun H1 e Q q =>
  wa (pa_cons peT paT hs) (h H1 e _ fun v H2 e2 hp => h2 H2 (e.trans e2) _ fun vs H3 e3 hr => q _ H3 (e2.trans e3) ⟨v, vs, rfl, m v H2 H3 e3 hp, hr⟩)
theorem xap_e (h : XA X es σ H vs) : XAP X es σ H (fun ws _ => ws = vs) := fun H1 e Q q => h H1 e Q fun H2 e2 => q vs H2 e2 rfl
/-- an exact one ahead -/
theorem xap_x {R : List V → Hp → Prop} (h : XE X a σ H v) (h2 : XAP X rest σ H R) (hs : starEach (a :: rest) X.env = (false, eval a X.env) :: starEach rest X.env := by rfl) :
    XAP X (a :: rest) σ H (fun vs H2 => ∃ r, vs = v :: r ∧ R r H2) := fun H1 e Q q =>
  wa (pa_cons peT paT hs) (h H1 e _ fun H2 e2 => h2 H2 (e.trans e2) _ fun vs H3 e3 hr => q _ H3 (e2.trans e3) ⟨vs, rfl, hr⟩)
theorem xp_tup {y1} {R : List V → Hp → Prop} (h : XAP X es σ H R) (hl : ∀ vs H2, R vs H2 → vs.length ≤ 100000) (m : ∀ vs H1 H2, Ex H1 H2 → R vs H1 → R vs H2) :
    XP X (.Tuple es y1 pos) σ H (fun w H2 => ∃ p vs, w = .ref p ∧ H2 p = some (.tup vs) ∧ R vs H2) := xp (pe_tup paT) fun H1 e Q q =>
  h H1 e _ fun vs H2 e2 r => ⟨sz_of (hl _ _ r), fun p hp => q _ _ (e2.trans (Ex.new hp)) ⟨p, vs, rfl, upd_same, m _ _ _ (Ex.new hp) r⟩⟩
/-! ### statements, what is behind them in sight -/
variable {D : Ends} {sts2 els : List Stmt} {k : Nat} {m : Str} {sp : Sp} {CC : Addr}
theorem s_nil (h : ∀ H1, Ex H H1 → D.nx σ H1) : XS X [] D σ H := fun H1 e => b_nil (h H1 e)
theorem s_set (i : Nat) {x : Str} (h : XE X a σ H v) (q : XS X sts D (σ.set i (some v)) H) (hN : X.N.Nodup := by assumption) (hi : X.N[i]? = some x := by rfl) (hx : Loc X.env.scope x := by first | exact Or.inl rfl | exact Or.inr rfl)
    (hs : swapsWith a (some (.Name x p1)) pos.line X.env = pure false := by rfl) (hf : X.fn x = true ∨ X.env.scope.names.lookup x = some .local := by first | exact .inl rfl | exact .inr rfl) : XS X (.Assign [.Name x p1] a pos :: sts) D σ H := fun H1 e =>
  b_cons (ws (L2.ps_set hN hi hx peT hs hf) (h H1 e _ fun H2 e2 => q H2 (e.trans e2)))
/-- the new thing's address is new -/
def EvN (te : TE) (σ : L2.St) (H : Hp) (P : Addr → Hp → Prop) : Prop := ∀ H1, Ex H H1 → ∀ Q : VK, (∀ p H2, H1 p = none → Ex H1 H2 → P p H2 → Q (.ref p) H2) → te σ H1 Q
abbrev XN (X : Cx) (e : Expr) (σ : L2.St) (H : Hp) (P : Addr → Hp → Prop) : Prop := EvN (eT X e) σ H P
theorem xn {R : Addr → Hp → Prop} (p : PE X e t) (h : EvN t σ H R) : XN X e σ H R := fun H1 a Q q => we p (h H1 a Q q)
theorem xn_u (h : XU X a σ H xs) : XN X a σ H (fun p H2 => H2 p = some (.tup xs)) := h
theorem xn_l (h : XL X a σ H xs) : XN X a σ H (fun p H2 => H2 p = some (.lst xs)) := h
theorem s_setN (i : Nat) {x : Str} {R : Addr → Hp → Prop} (h : XN X a σ H R) (q : ∀ p H1, H p = none → Ex H H1 → R p H1 → XS X sts D (σ.set i (some (.ref p))) H1) (hN : X.N.Nodup := by assumption) (hi : X.N[i]? = some x := by rfl) (hx : Loc X.env.scope x := by first | exact Or.inl rfl | exact Or.inr rfl)
    (hs : swapsWith a (some (.Name x p1)) pos.line X.env = pure false := by rfl) (hf : X.fn x = true ∨ X.env.scope.names.lookup x = some .local := by first | exact .inl rfl | exact .inr rfl) : XS X (.Assign [.Name x p1] a pos :: sts) D σ H := fun H1 e =>
  b_cons (ws (L2.ps_set hN hi hx peT hs hf) (h H1 e _ fun p H2 hp e2 r => q p H2 (fresh_back e hp) (e.trans e2) r H2 (Ex.refl H2)))
theorem s_setL (i : Nat) {x : Str} (h : XL X a σ H xs) (q : ∀ p H1, H p = none → Ex H H1 → H1 p = some (.lst xs) → XS X sts D (σ.set i (some (.ref p))) H1) (hN : X.N.Nodup := by assumption) (hi : X.N[i]? = some x := by rfl) (hx : Loc X.env.scope x := by first | exact Or.inl rfl | exact Or.inr rfl)
    (hs : swapsWith a (some (.Name x p1)) pos.line X.env = pure false := by rfl) (hf : X.fn x = true ∨ X.env.scope.names.lookup x = some .local := by first | exact .inl rfl | exact .inr rfl) : XS X (.Assign [.Name x p1] a pos :: sts) D σ H := s_setN i (xn_l h) q hN hi hx hs hf
theorem s_setP (i : Nat) {x : Str} {R : V → Hp → Prop} (h : XP X a σ H R) (q : ∀ v H1, Ex H H1 → R v H1 → XS X sts D (σ.set i (some v)) H1) (hN : X.N.Nodup := by assumption) (hi : X.N[i]? = some x := by rfl) (hx : Loc X.env.scope x := by first | exact Or.inl rfl | exact Or.inr rfl)
    (hs : swapsWith a (some (.Name x p1)) pos.line X.env = pure false := by rfl) (hf : X.fn x = true ∨ X.env.scope.names.lookup x = some .local := by first | exact .inl rfl | exact .inr rfl) : XS X (.Assign [.Name x p1] a pos :: sts) D σ H := fun H1 e =>
  b_cons (ws (L2.ps_set hN hi hx peT hs hf) (h H1 e _ fun v H2 e2 r => q v H2 (e.trans e2) r H2 (Ex.refl H2)))
theorem s_ret (h : XE X a σ H v) (q : ∀ H1, Ex H H1 → D.rt v H1) : XS X (.Return (some a) pos :: sts) D σ H := fun H1 e => b_cons (ws (ps_ret peT) (h H1 e _ fun H2 e2 => q H2 (e.trans e2)))
theorem s_retP {R : V → Hp → Prop} (h : XP X a σ H R) (q : ∀ v H1, Ex H H1 → R v H1 → D.rt v H1) : XS X (.Return (some a) pos :: sts) D σ H := fun H1 e => b_cons (ws (ps_ret peT) (h H1 e _ fun v H2 e2 r => q v H2 (e.trans e2) r))
theorem s_retN (q : ∀ H1, Ex H H1 → D.rt .non H1) : XS X (.Return none pos :: sts) D σ H := fun H1 e => b_cons (ws ps_retN (q H1 e))
theorem s_if {b : Bool} (h : XT X a σ H b) (h1 : b = true → XS X sts2 { D with nx := fun σ H => bT X sts D σ H } σ H) (h2 : b = false → XS X els { D with nx := fun σ H => bT X sts D σ H } σ H) : XS X (.If a sts2 els pos :: sts) D σ H := fun H1 e =>
  b_cons (ws (ps_if ptT pbT pbT) (h H1 e _ fun H2 e2 => by
    cases b with
    | true => exact h1 rfl H2 (e.trans e2)
    | false => exact h2 rfl H2 (e.trans e2)))
/-- behind an if that fell through -/
theorem s_then (h : XS X sts D σ H) : XS X [] { D with nx := fun σ H => bT X sts D σ H } σ H := fun H1 e => b_nil (h H1 e)
theorem s_expr (h : XE X a σ H v) (q : XS X sts D σ H) (hs : swapsWith a none pos.line X.env = pure false := by rfl) : XS X (.Expr a pos :: sts) D σ H := fun H1 e => b_cons (ws (ps_expr peT hs) (h H1 e _ fun H2 e2 => q H2 (e.trans e2)))
/-! ### calls -/
def PV (sp : Sp) (vs : List V) (H : Hp) (z : V) : Prop := ∀ H1, Ex H H1 → ∀ Q : VK, (∀ H2, Ex H1 H2 → Q z H2) → sp vs H1 Q C8.E0
def PP (sp : Sp) (vs : List V) (H : Hp) (P : V → Hp → Prop) : Prop := ∀ H1, Ex H H1 → ∀ Q : VK, (∀ v H2, Ex H1 H2 → P v H2 → Q v H2) → sp vs H1 Q C8.E0
section
variable {j : Nat}
theorem x_call {x : Str} (cl : C8.Cal X.prog X.w X.K X.mg X.base k x sp []) (hr : Room j X.A) (ha : XA X (a :: es) σ H vs) (hs : PV sp vs H z) (hk : k ≤ j := by decide) (hg : Gl X x := by rfl) (hdb : (x == ("__debug__" : Str)) = false := by decide)
    (he : starEach (a :: es) X.env = (false, eval a X.env) :: starEach es X.env := by rfl) (hpl : (backTo pos (starEach es X.env)).any (·.1) = false := by rfl) : XE X (.Call (.Name x p1) (a :: es) [] pos) σ H z :=
  xe (C8.pe_c cl hr hk hg paT hdb he hpl) fun H1 e Q q => ha H1 e _ fun H2 e2 => by
    rw [List.append_nil]
    exact hs H2 (e.trans e2) Q fun H3 e3 => q H3 (e2.trans e3)
theorem xp_call {x : Str} {R : List V → Hp → Prop} (cl : C8.Cal X.prog X.w X.K X.mg X.base k x sp []) (hr : Room j X.A) (ha : XAP X (a :: es) σ H R) (hs : ∀ vs H1, Ex H H1 → R vs H1 → PP sp vs H1 P) (hk : k ≤ j := by decide) (hg : Gl X x := by rfl) (hdb : (x == ("__debug__" : Str)) = false := by decide)
    (he : starEach (a :: es) X.env = (false, eval a X.env) :: starEach es X.env := by rfl) (hpl : (backTo pos (starEach es X.env)).any (·.1) = false := by rfl) : XP X (.Call (.Name x p1) (a :: es) [] pos) σ H P :=
  xp (C8.pe_c cl hr hk hg paT hdb he hpl) fun H1 e Q q => ha H1 e _ fun vs H2 e2 r => by
    rw [List.append_nil]
    exact hs vs H2 (e.trans e2) r H2 (Ex.refl H2) Q fun v H3 e3 p => q v H3 (e2.trans e3) p
theorem x_meth {pl : Sem Bool} (me : C8.Met X.prog X.w X.K X.mg X.base k C m sp []) (hr : Room j X.A) (ho : XE X a σ H (.ref ad)) (hi : H ad = some (.ins C dx fs)) (hl : fs.lookup m = none) (ha : XA X (c :: es) σ H vs) (hs : PV sp (.ref ad :: vs) H z) (hk : k ≤ j := by decide)
    (hst : starEach (c :: es) X.env = (false, eval c X.env) :: starEach es X.env := by rfl) (hpl : (backTo pos (starEach es X.env)).any (·.1) = false := by rfl)
    (ht : eval (.Call (.Attribute a m p1) (c :: es) [] pos) X.env = (do
      let ov ← eval a X.env
      standAt p1.atName
      let (f, first) ← holding [ov] (getMethod ov m pl)
      callWith pos f first (backTo pos (starEach (c :: es) X.env)) (backToKw pos (keywordEach [] X.env))) := by rfl) : XE X (.Call (.Attribute a m p1) (c :: es) [] pos) σ H z :=
  xe (C8.pe_mt (pl := pl) me hr hk peT paT hst hpl ht) fun H1 e Q q => ho H1 e _ fun H2 e2 => ⟨ad, dx, fs, rfl, e2 _ _ (e _ _ hi), hl, ha H2 (e.trans e2) _ fun H3 e3 => by
    rw [List.append_nil]
    exact hs H3 ((e.trans e2).trans e3) Q fun H4 e4 => q H4 ((e2.trans e3).trans e4)⟩
theorem x_meth0 {pl : Sem Bool} (me : C8.Met X.prog X.w X.K X.mg X.base k C m sp []) (hr : Room j X.A) (ho : XE X a σ H (.ref ad)) (hi : H ad = some (.ins C dx fs)) (hl : fs.lookup m = none) (hs : PV sp [.ref ad] H z) (hk : k ≤ j := by decide)
    (ht : eval (.Call (.Attribute a m p1) [] [] pos) X.env = (do
      let ov ← eval a X.env
      standAt p1.atName
      let (f, first) ← holding [ov] (getMethod ov m pl)
      callWith pos f first (backTo pos (starEach [] X.env)) (backToKw pos (keywordEach [] X.env))) := by rfl) : XE X (.Call (.Attribute a m p1) [] [] pos) σ H z :=
  xe (C8.pe_mt0 (pl := pl) me hr hk peT ht) fun H1 e Q q => ho H1 e _ fun H2 e2 => ⟨ad, dx, fs, rfl, e2 _ _ (e _ _ hi), hl, hs H2 (e.trans e2) Q fun H4 e4 => q H4 (e2.trans e4)⟩
theorem xp_meth {pl : Sem Bool} {R : List V → Hp → Prop} (me : C8.Met X.prog X.w X.K X.mg X.base k C m sp []) (hr : Room j X.A) (ho : XE X a σ H (.ref ad)) (hi : H ad = some (.ins C dx fs)) (hl : fs.lookup m = none) (ha : XAP X (c :: es) σ H R) (hs : ∀ vs H1, Ex H H1 → R vs H1 → PP sp (.ref ad :: vs) H1 P) (hk : k ≤ j := by decide)
    (hst : starEach (c :: es) X.env = (false, eval c X.env) :: starEach es X.env := by rfl) (hpl : (backTo pos (starEach es X.env)).any (·.1) = false := by rfl)
    (ht : eval (.Call (.Attribute a m p1) (c :: es) [] pos) X.env = (do
      let ov ← eval a X.env
      standAt p1.atName
      let (f, first) ← holding [ov] (getMethod ov m pl)
      callWith pos f first (backTo pos (starEach (c :: es) X.env)) (backToKw pos (keywordEach [] X.env))) := by rfl) : XP X (.Call (.Attribute a m p1) (c :: es) [] pos) σ H P :=
  xp (C8.pe_mt (pl := pl) me hr hk peT paT hst hpl ht) fun H1 e Q q => ho H1 e _ fun H2 e2 => ⟨ad, dx, fs, rfl, e2 _ _ (e _ _ hi), hl, ha H2 (e.trans e2) _ fun vs H3 e3 r => by
    rw [List.append_nil]
    exact hs vs H3 ((e.trans e2).trans e3) r H3 (Ex.refl H3) Q fun v H4 e4 p => q v H4 ((e2.trans e3).trans e4) p⟩
theorem xp_meth0 {pl : Sem Bool} (me : C8.Met X.prog X.w X.K X.mg X.base k C m sp []) (hr : Room j X.A) (ho : XE X a σ H (.ref ad)) (hi : H ad = some (.ins C dx fs)) (hl : fs.lookup m = none) (hs : PP sp [.ref ad] H P) (hk : k ≤ j := by decide)
    (ht : eval (.Call (.Attribute a m p1) [] [] pos) X.env = (do
      let ov ← eval a X.env
      standAt p1.atName
      let (f, first) ← holding [ov] (getMethod ov m pl)
      callWith pos f first (backTo pos (starEach [] X.env)) (backToKw pos (keywordEach [] X.env))) := by rfl) : XP X (.Call (.Attribute a m p1) [] [] pos) σ H P :=
  xp (C8.pe_mt0 (pl := pl) me hr hk peT ht) fun H1 e Q q => ho H1 e _ fun H2 e2 => ⟨ad, dx, fs, rfl, e2 _ _ (e _ _ hi), hl, hs H2 (e.trans e2) Q fun v H4 e4 p => q v H4 (e2.trans e4) p⟩
end
end
/-! ### defs of the text, by names -/
structure DF (K : PySem.W.Frag) (mg : Str → Option Value) (x : Str) (st : Stmt) (ps : List Str) : Prop where
  ex : ∃ (f : Addr) (fd : FuncData), C8.Def K mg x st f fd ∧ Binds K fd ps []
structure MF (K : PySem.W.Frag) (C : Addr) (m qual : Str) (st : Stmt) (ps : List Str) : Prop where
  cl : Cls K C
  ex : ∃ (f : Addr) (fd : FuncData), Meth K C m f ∧ C8.Fun K m qual st f fd ∧ Binds K fd ps []
section
variable {P : Program} {w : World} {K : PySem.W.Frag} {mg : Str → Option Value} {base : Heap}
theorem cal_of {x : Str} {st : Stmt} {N ps : List Str} {k : Nat} {sp : Sp} (F : DF K mg x st ps) (S : C8.scC N ps (C8.fnScope st) = true) (len : ∀ vs H Q E, sp vs H Q E → vs.length = ps.length)
    (hbody : ∀ (f : Addr) (cdv : Value) (A : Around) (outer : List Env) (s : Shared) (H : Hp) (vs : List V) (Q : VK) (E : XK), Room k (A.deeper (envOfC x (C8.fnScope st) s.heap.objs.size f cdv)) → N.Nodup → sp vs H Q E →
      bT (cxOf C8.CX0 P w K mg base N x (C8.fnScope st) f cdv A outer s H E).nox (C8.fnBody st) { nx := fun _ H' => Q .non H', rt := Q } (start N vs) H) : C8.Cal P w K mg base (k + 1) x sp [] := by
  obtain ⟨f, fd, D, b⟩ := F.ex
  exact C8.cal0 D b .nil (C8.fnScope_by S) len fun cdv A outer s H vs Q E hr h => ⟨_, pbT, hbody f cdv A outer s H vs Q E hr (C8.fnScope_by S).nd h⟩
theorem met_of {m qual : Str} {C : Addr} {st : Stmt} {N ps : List Str} {k : Nat} {sp : Sp} (F : MF K C m qual st ps) (S : C8.scC N ps (C8.fnScope st) = true) (len : ∀ vs H Q E, sp vs H Q E → vs.length = ps.length)
    (hbody : ∀ (f : Addr) (cdv : Value) (A : Around) (outer : List Env) (s : Shared) (H : Hp) (vs : List V) (Q : VK) (E : XK), Room k (A.deeper (envOfC qual (C8.fnScope st) s.heap.objs.size f cdv)) → N.Nodup → sp vs H Q E →
      bT (cxOf C8.CX0 P w K mg base N qual (C8.fnScope st) f cdv A outer s H E).nox (C8.fnBody st) { nx := fun _ H' => Q .non H', rt := Q } (start N vs) H) : C8.Met P w K mg base (k + 1) C m sp [] := by
  obtain ⟨f, fd, me, D, b⟩ := F.ex
  exact C8.met0 F.cl me D b (C8.fnScope_by S) len fun cdv A outer s H vs Q E hr h => ⟨_, pbT, hbody f cdv A outer s H vs Q E hr (C8.fnScope_by S).nd h⟩
end
end Lx
/-! LsR -/
set_option Elab.async false
set_option linter.all false
set_option maxRecDepth 100000
namespace Lx
open PySem PySem.Spec PyProof.Rows L2 Evl
/-! ### x in o, o of an own class with __contains__ -/
section
variable {X : Cx} {C : Addr} {k j : Nat} {sp : Sp}
def rInOwn (C : Addr) (sp : Sp) : R2 := fun x y H Q => ∃ b dx fs, y = .ref b ∧ H b = some (.ins C dx fs) ∧ sp [.ref b, x] H (fun v H' => ∃ k, v = .bl k ∧ Q (.bl k) H') C8.E0
def rNiOwn (C : Addr) (sp : Sp) : R2 := fun x y H Q => ∃ b dx fs, y = .ref b ∧ H b = some (.ins C dx fs) ∧ sp [.ref b, x] H (fun v H' => ∃ k, v = .bl k ∧ Q (.bl (!k)) H') C8.E0
theorem contains_own {pins : List (Addr × Obj)} {s : Shared} {σ : L2.St} {H : Hp} {b dx : Addr} {fs : List (Str × V)} {x : V} {v : Value} {Q : Bool → Hp → Prop} (me : C8.Met X.prog X.w X.K X.mg X.base k C "__contains__" sp []) (hr : Room k X.A) (I : Inv X pins σ H s) (hb : H b = some (.ins C dx fs)) (rx : RelV x v)
    (h : sp [.ref b, x] H (fun v H' => ∃ k, v = .bl k ∧ Q k H') C8.E0) : wpAny (model X.prog X.w) X.A (contains (.ref b) v) (fun r s' => ∃ H', Inv X pins σ H' s' ∧ Q r H') X.xe s := by
  obtain ⟨f, fd, ps, ds, cl, M, F, bd, d⟩ := me.ex
  obtain ⟨mA, O, _⟩ := ins_get I.hok hb
  obtain ⟨od, J, _⟩ := O.look
  have K1 := I.kIn
  cases d
  unfold contains
  refine wpAny_holding (wpAny_bind (wpAny_bind (J.type.here ((PySem.W.looks_findIn K1 M.at_).here ?_))))
  rw [if_neg (by simp)]
  refine wpAny_bind (PySem.W.unlessNone_K K1 J M.at_ M.fn (thn (run_fn (us := [.ref b, v]) (vs := [.ref b, x]) F hr bd .nil C8.pass0 I (.cons rfl (.cons rx .nil)) (by rw [List.append_nil]; exact h)) fun u s1 hq => ?_))
  obtain ⟨v1, H1, I1, r1, k1, rfl, q⟩ := hq
  obtain rfl : u = Value.bool k1 := r1
  exact wpAny_truthy_bool ⟨H1, I1, q⟩
theorem op_inOwn (me : C8.Met X.prog X.w X.K X.mg X.base k C "__contains__" sp []) (hr : Room k X.A) : OpR X (compareOp .In) (rInOwn C sp) := by
  intro pins s σ H x y v u Q I rx ry h
  obtain ⟨b, dx, fs, rfl, hb, h⟩ := h
  obtain rfl : u = Value.ref b := ry
  exact wpAny_bind (thn (contains_own (Q := fun k H' => Q (.bl k) H') me hr I hb rx h) fun r s1 ⟨H1, I1, q⟩ => wpAny_pure ⟨.bl r, H1, I1, rfl, q⟩)
theorem op_niOwn (me : C8.Met X.prog X.w X.K X.mg X.base k C "__contains__" sp []) (hr : Room k X.A) : OpR X (compareOp .NotIn) (rNiOwn C sp) := by
  intro pins s σ H x y v u Q I rx ry h
  obtain ⟨b, dx, fs, rfl, hb, h⟩ := h
  obtain rfl : u = Value.ref b := ry
  exact wpAny_bind (thn (contains_own (Q := fun k H' => Q (.bl (!k)) H') me hr I hb rx h) fun r s1 ⟨H1, I1, q⟩ => wpAny_pure ⟨.bl (!r), H1, I1, rfl, q⟩)
section
variable {a c : Expr} {pos : Pos} {σ : L2.St} {H : Hp} {x : V} {b dx : Addr} {fs : List (Str × V)} {r : Bool}
theorem rv_inOwn (hb : H b = some (.ins C dx fs)) (h : PV sp [.ref b, x] H (.bl r)) : RV (rInOwn C sp) x (.ref b) H (.bl r) := fun H1 e Q q => ⟨b, dx, fs, rfl, e _ _ hb, h H1 e _ fun H2 e2 => ⟨r, rfl, q H2 e2⟩⟩
theorem rv_niOwn (hb : H b = some (.ins C dx fs)) (h : PV sp [.ref b, x] H (.bl r)) : RV (rNiOwn C sp) x (.ref b) H (.bl (!r)) := fun H1 e Q q => ⟨b, dx, fs, rfl, e _ _ hb, h H1 e _ fun H2 e2 => ⟨r, rfl, q H2 e2⟩⟩
theorem x_inOwn (me : C8.Met X.prog X.w X.K X.mg X.base k C "__contains__" sp []) (hr : Room j X.A) (ha : XE X a σ H x) (hc : XE X c σ H (.ref b)) (hb : H b = some (.ins C dx fs)) (h : PV sp [.ref b, x] H (.bl r)) (hk : k ≤ j := by decide) (hm : behindInMarks .In c = false := by rfl) : XE X (.Compare a [.In] [c] pos) σ H (.bl r) :=
  x_cmp (op_inOwn me (hr.mono hk)) ha hc (rv_inOwn hb h) hm
theorem x_niOwn (me : C8.Met X.prog X.w X.K X.mg X.base k C "__contains__" sp []) (hr : Room j X.A) (ha : XE X a σ H x) (hc : XE X c σ H (.ref b)) (hb : H b = some (.ins C dx fs)) (h : PV sp [.ref b, x] H (.bl r)) (hk : k ≤ j := by decide) (hm : behindInMarks .NotIn c = false := by rfl) : XE X (.Compare a [.NotIn] [c] pos) σ H (.bl (!r)) :=
  x_cmp (op_niOwn me (hr.mono hk)) ha hc (rv_niOwn hb h) hm
end
end
/-! ### f'{a} {b}' of texts -/
section
variable {X : Cx} {a c d : Expr} {rest : List Expr} {pos p1 p2 : Pos} {σ : L2.St} {H : Hp} {s : Str}
/-- the parts, one behind the other: the text so far -/
structure XJ (X : Cx) (es : List Expr) (σ : L2.St) (H : Hp) (acc out : Str) : Prop where
  ex : ∃ ts, PJ X es ts ∧ ∀ H1, Ex H H1 → ∀ Q : Str → Hp → Prop, (∀ H2, Ex H1 H2 → Q out H2) → tJs ts acc σ H1 Q
theorem j_nil {acc : Str} : XJ X [] σ H acc acc := ⟨[], .nil, fun H1 _ Q q => q H1 (Ex.refl H1)⟩
theorem j_fmt {acc out y : Str} (h : XE X a σ H (.str y)) (r : XJ X rest σ H (acc ++ y) out) (hz : y.length ≤ 100000) (hl : (acc ++ y).length ≤ 100000) : XJ X (.FormattedValue a (-1) none p1 :: rest) σ H acc out := by
  obtain ⟨ts, pj, hr⟩ := r.ex
  exact ⟨_, .cons (pe_fmt peT) pj, fun H1 e Q q => h H1 e _ fun H2 e2 => .inl ⟨y, rfl, sz_of hz, y, rfl, sz_of hl, hr H2 (e.trans e2) Q fun H3 e3 => q H3 (e2.trans e3)⟩⟩
theorem j_str {acc out y : Str} {k : Nat} (r : XJ X rest σ H (acc ++ y) out) (hl : (acc ++ y).length ≤ 100000) : XJ X (.Constant (.str y) k p1 :: rest) σ H acc out := by
  obtain ⟨ts, pj, hr⟩ := r.ex
  exact ⟨_, .cons pe_str pj, fun H1 e Q q => ⟨y, rfl, sz_of hl, hr H1 e Q q⟩⟩
theorem x_join {out : Str} (h : XJ X (a :: c :: rest) σ H Str.empty out) : XE X (.JoinedStr (a :: c :: rest) pos) σ H (.str out) := by
  obtain ⟨ts, pj, hr⟩ := h.ex
  exact xe (pe_joined pj) fun H1 e Q q => hr H1 e _ fun H2 e2 => q H2 e2
end
/-! ### dicts -/
section
variable {X : Cx} {a c d : Expr} {rest sts : List Expr} {pos p1 p2 : Pos} {σ : L2.St} {H : Hp} {x y v : V} {ad : Addr} {o : Option V}
def rInD : R2 := fun x y H Q => ∃ a o, y = .ref a ∧ DGet H a x o ∧ Q (.bl o.isSome) H
def rNiD : R2 := fun x y H Q => ∃ a o, y = .ref a ∧ DGet H a x o ∧ Q (.bl (!o.isSome)) H
theorem op_inD (hu : X.A.units + 1 < cLine) : OpR X (compareOp .In) rInD := by
  intro pins s σ H x y v u Q I rx ry h
  obtain ⟨a, o, rfl, g, q⟩ := h
  obtain rfl : u = Value.ref a := ry
  exact d_in hu I g rx fun s3 I3 => ⟨.bl o.isSome, H, I3, rfl, q⟩
theorem op_niD (hu : X.A.units + 1 < cLine) : OpR X (compareOp .NotIn) rNiD := by
  intro pins s σ H x y v u Q I rx ry h
  obtain ⟨a, o, rfl, g, q⟩ := h
  obtain rfl : u = Value.ref a := ry
  exact d_notIn hu I g rx fun s3 I3 => ⟨.bl (!o.isSome), H, I3, rfl, q⟩
theorem ex_get {H H' : Hp} {r : Option V} (e : Ex H H') (g : DGet H ad y r) : DGet H' ad y r := by
  rcases g with ⟨kvs, k, h1, h2, h3⟩ | ⟨kvs, k, b, h1, h2, h3, h4⟩
  · exact .inl ⟨kvs, k, ex_rd e h1, h2, h3⟩
  · exact .inr ⟨kvs, k, b, ex_rd e h1, h2, e _ _ h3, h4⟩
theorem get_k {kvs : List (Key × V)} {k : Key} (h : Rd H ad (.dK kvs)) : DGet H ad (kV k) (valV kvs k) := .inl ⟨kvs, k, h, rfl, rfl⟩
theorem get_s {kvs : List (Key × V)} {k : Str} (h : Rd H ad (.dK kvs)) : DGet H ad (.str k) (valV kvs (Sum.inr k : Key)) := .inl ⟨kvs, Sum.inr k, h, rfl, rfl⟩
theorem get_t {kvs : List (List Key × V)} {k : List Key} {b : Addr} (h : Rd H ad (.dT kvs)) (hb : H b = some (.tup (k.map kV))) : DGet H ad (.ref b) (valV kvs k) := .inr ⟨kvs, k, b, h, rfl, hb, rfl⟩
theorem rv_inD (g : DGet H ad x o) : RV rInD x (.ref ad) H (.bl o.isSome) := fun H1 e Q q => ⟨ad, o, rfl, ex_get e g, q H1 (Ex.refl H1)⟩
theorem rv_niD (g : DGet H ad x o) : RV rNiD x (.ref ad) H (.bl (!o.isSome)) := fun H1 e Q q => ⟨ad, o, rfl, ex_get e g, q H1 (Ex.refl H1)⟩
theorem x_inD {j : Nat} (hr : Room j X.A) (ha : XE X a σ H x) (hc : XE X c σ H (.ref ad)) (g : DGet H ad x o) (hm : behindInMarks .In c = false := by rfl) : XE X (.Compare a [.In] [c] pos) σ H (.bl o.isSome) := x_cmp (op_inD (hu_of hr)) ha hc (rv_inD g) hm
theorem t_inD {j : Nat} (hr : Room j X.A) (ha : XE X a σ H x) (hc : XE X c σ H (.ref ad)) (g : DGet H ad x o) (hm : behindInMarks .In c = false := by rfl) : XT X (.Compare a [.In] [c] pos) σ H o.isSome := t_cmp (op_inD (hu_of hr)) ha hc (rv_inD g) hm
theorem x_niD {j : Nat} (hr : Room j X.A) (ha : XE X a σ H x) (hc : XE X c σ H (.ref ad)) (g : DGet H ad x o) (hm : behindInMarks .NotIn c = false := by rfl) : XE X (.Compare a [.NotIn] [c] pos) σ H (.bl (!o.isSome)) := x_cmp (op_niD (hu_of hr)) ha hc (rv_niD g) hm
theorem t_niD {j : Nat} (hr : Room j X.A) (ha : XE X a σ H x) (hc : XE X c σ H (.ref ad)) (g : DGet H ad x o) (hm : behindInMarks .NotIn c = false := by rfl) : XT X (.Compare a [.NotIn] [c] pos) σ H (!o.isSome) := t_cmp (op_niD (hu_of hr)) ha hc (rv_niD g) hm
theorem x_dget {j : Nat} (hr : Room j X.A) (ha : XE X a σ H (.ref ad)) (hc : XE X c σ H y) (g : DGet H ad y (some v)) (hs : NoSl c := by intro _ _; rfl) : XE X (.Subscript a c pos) σ H v :=
  xe (pe_dget (hu_of hr) peT peT hs) fun H1 e Q q => ha H1 e _ fun H2 e2 => hc H2 (e.trans e2) _ fun H3 e3 => ⟨ad, v, rfl, ex_get ((e.trans e2).trans e3) g, q H3 (e2.trans e3)⟩
end
/-! ### x in y, y a list, a tuple or a dict of texts -/
section
variable {X : Cx} {a c : Expr} {pos : Pos} {σ : L2.St} {H : Hp} {ad : Addr} {s : Str} {xs : List Str}
/-- what holds the texts xs: a list, a tuple, a dict by its keys -/
def Holds (K : PySem.W.Frag) (H : Hp) (ad : Addr) (xs : List Str) : Prop := (SqL K H ad (xs.map V.str) ∨ SqT K H ad (xs.map V.str)) ∨ ∃ kvs : List (Key × V), Rd H ad (.dK kvs) ∧ kvs.map (·.1) = xs.map Sum.inr
theorem Holds.mono {K : PySem.W.Frag} {H H' : Hp} (h : Holds K H ad xs) (e : Ex H H') : Holds K H' ad xs := by
  rcases h with (h | h) | ⟨kvs, h, k⟩
  · exact .inl (.inl (ex_l e h))
  · exact .inl (.inr (ex_t e h))
  · exact .inr ⟨kvs, ex_rd e h, k⟩
theorem flat_strs : ∀ xs : List Str, (xs.map V.str).all flatV = true
  | [] => rfl
  | _ :: xs => flat_strs xs
theorem inV_strs (s : Str) : ∀ xs : List Str, inV (.str s) (xs.map V.str) = decide (s ∈ xs)
  | [] => by simp [inV]
  | x :: xs => by
    have ih := inV_strs s xs
    unfold inV at ih ⊢
    rw [List.map_cons, List.any_cons, ih]
    by_cases h : s = x
    · subst h
      simp [eqV]
    · have h' : ¬ x = s := fun e => h e.symm
      simp [eqV, h, h']
theorem val_keys (s : Str) : ∀ (kvs : List (Key × V)) (xs : List Str), kvs.map (·.1) = xs.map Sum.inr → (valV kvs (Sum.inr s : Key)).isSome = decide (s ∈ xs)
  | [], [], _ => by simp [valV]
  | [], x :: xs, h => by cases h
  | kv :: kvs, [], h => by cases h
  | kv :: kvs, x :: xs, h => by
    rw [List.map_cons, List.map_cons] at h
    injection h with h1 h2
    have ih := val_keys s kvs xs h2
    unfold valV at ih ⊢
    rw [List.find?_cons]
    by_cases e : s = x
    · subst e
      simp [h1]
    · have e' : ¬ kv.1 = Sum.inr s := fun z => e (by rw [h1] at z; exact (Sum.inr.inj z).symm)
      rw [decide_eq_false e']
      simp only
      rw [ih]
      simp [e]
def rInA (K : PySem.W.Frag) : R2 := fun x y H Q => ∃ (s : Str) (a : Addr) (xs : List Str), x = .str s ∧ y = .ref a ∧ Holds K H a xs ∧ Q (.bl (decide (s ∈ xs))) H
theorem op_inA (hu : X.A.units + 1 < cLine) : OpR X (compareOp .In) (rInA X.K) := by
  intro pins s σ H x y v u Q I rx ry h
  obtain ⟨z, a, xs, rfl, rfl, g, q⟩ := h
  rcases g with g | ⟨kvs, g, k⟩
  · exact op_in_seq pins s σ H _ _ v u Q I rx ry ⟨a, _, rfl, g, rfl, flat_strs xs, by rw [if_neg Bool.false_ne_true, inV_strs]; exact q⟩
  · exact op_inD hu pins s σ H _ _ v u Q I rx ry ⟨a, _, rfl, get_s g, by rw [val_keys z kvs xs k]; exact q⟩
theorem x_inA {j : Nat} (hr : Room j X.A) (ha : XE X a σ H (.str s)) (hc : XE X c σ H (.ref ad)) (g : Holds X.K H ad xs) (hm : behindInMarks .In c = false := by rfl) : XE X (.Compare a [.In] [c] pos) σ H (.bl (decide (s ∈ xs))) :=
  x_cmp (op_inA (hu_of hr)) ha hc (fun H1 e Q q => ⟨s, ad, xs, rfl, rfl, g.mono e, q H1 (Ex.refl H1)⟩) hm
theorem t_inA {j : Nat} (hr : Room j X.A) (ha : XE X a σ H (.str s)) (hc : XE X c σ H (.ref ad)) (g : Holds X.K H ad xs) (hm : behindInMarks .In c = false := by rfl) : XT X (.Compare a [.In] [c] pos) σ H (decide (s ∈ xs)) :=
  t_cmp (op_inA (hu_of hr)) ha hc (fun H1 e Q q => ⟨s, ad, xs, rfl, rfl, g.mono e, q H1 (Ex.refl H1)⟩) hm
end
/-! ### built-ins -/
section
variable {X : Cx} {a c : Expr} {es : List Expr} {pos p1 p2 : Pos} {σ : L2.St} {H : Hp} {ad : Addr} {s : Str} {vs xs : List V} {z : V}
theorem x_blt {id : String} {r : List V → Hp → VK → Prop} {x : Str} (hc : CallR X (.builtin id) r) (hm : X.mg x = none) (hv : bootBuiltins x = some (.builtin id)) (ha : XA X (a :: es) σ H vs) (hr : RC r vs H z) (hg : Gl X x := by rfl) (hn : x ≠ "__name__" := by decide) (hdb : (x == ("__debug__" : Str)) = false := by decide)
    (he : starEach (a :: es) X.env = (false, eval a X.env) :: starEach es X.env := by rfl) (hpl : (backTo pos (starEach es X.env)).any (·.1) = false := by rfl) : XE X (.Call (.Name x p1) (a :: es) [] pos) σ H z :=
  xe (pe_callB hc hg hm hv paT hn hdb he hpl) (ev_cb ha hr)
theorem x_ty {id : String} {r : List V → Hp → VK → Prop} {x : Str} (hc : CallR X (.type id) r) (hm : X.mg x = none) (hv : bootBuiltins x = some (.type id)) (ha : XA X (a :: es) σ H vs) (hr : RC r vs H z) (hg : Gl X x := by rfl) (hn : x ≠ "__name__" := by decide) (hdb : (x == ("__debug__" : Str)) = false := by decide)
    (he : starEach (a :: es) X.env = (false, eval a X.env) :: starEach es X.env := by rfl) (hpl : (backTo pos (starEach es X.env)).any (·.1) = false := by rfl) : XE X (.Call (.Name x p1) (a :: es) [] pos) σ H z :=
  xe (pe_callTy hc hg hm hv paT hn hdb he hpl) (ev_cb ha hr)
theorem boot_isi : bootBuiltins "isinstance" = some (.builtin "isinstance") := by decide +kernel
theorem boot_str : bootBuiltins "str" = some (.type "str") := by decide +kernel
theorem boot_len' : bootBuiltins "len" = some (.builtin "len") := by decide +kernel
theorem kit_str {K : PySem.W.Frag} : PySem.W.kitOne K (.type "str") (.type "str") = some true := kit_ty (by decide +kernel)
/-- isinstance(s, str) of a text -/
theorem x_isStr (h1 : X.mg "isinstance" = none) (h2 : X.mg "str" = none) (ha : XE X a σ H (.str s)) (g1 : Gl X "isinstance" := by rfl) (g2 : Gl X "str" := by rfl)
    (he : starEach [a, .Name "str" p2] X.env = (false, eval a X.env) :: starEach [.Name "str" p2] X.env := by rfl) (hpl : (backTo pos (starEach [.Name "str" p2] X.env)).any (·.1) = false := by rfl) (hs : starEach [.Name "str" p2] X.env = (false, eval (.Name "str" p2) X.env) :: starEach [] X.env := by rfl) :
    XE X (.Call (.Name "isinstance" p1) [a, .Name "str" p2] [] pos) σ H (.bl true) :=
  x_blt call_isi h1 boot_isi (x_acons ha (x_acons (xe (pe_bltn (v := .ty "str") g2 h2 boot_str rfl) ev_c) x_anil hs) he) (fun H1 e Q q => ⟨.str s, .ty "str", .type "str", .type "str", true, rfl, .ty "str", .base (.str s), kit_str, q H1 (Ex.refl H1)⟩) g1 (by decide) (by decide) he hpl
end
end Lx
/-! LsC -/
set_option Elab.async false
set_option linter.all false
set_option maxRecDepth 100000
namespace Lx
open PySem PySem.Spec PyProof.Rows L2 Evl
/-! ### what is walked: the things as, the i-th comes as an x of which Rp as[i] x is true -/
/-- what stays true of a thing while the heap grows, while a list of ours grows, behind a lock -/
structure Stb (R : V → Hp → Prop) : Prop where
  ex : ∀ {v H H'}, Ex H H' → R v H → R v H'
  up : ∀ {v} {H : Hp} {D : Addr} {acc acc' : List V}, H D = some (.lst acc) → R v H → R v (upd H D (.lst acc'))
  un : ∀ {v} {H : Hp} {d : Addr} {od : Obj} {u : HO}, H d = some (.frz od u) → R v H → R v (upd H d u)
theorem stb_eq {v : V} : Stb (fun x _ => x = v) := ⟨fun _ h => h, fun _ h => h, fun _ h => h⟩
theorem stb_true : Stb (fun _ _ => True) := ⟨fun _ h => h, fun _ h => h, fun _ h => h⟩
theorem stb_pure {P : V → Prop} : Stb (fun x _ => P x) := ⟨fun _ h => h, fun _ h => h, fun _ h => h⟩
theorem stb_tup {xs : V → List V → Prop} : Stb (fun x H => ∃ p l, x = .ref p ∧ H p = some (.tup l) ∧ xs x l) :=
  ⟨fun e ⟨p, l, h1, h2, h3⟩ => ⟨p, l, h1, e _ _ h2, h3⟩, fun {v H D acc acc'} h ⟨p, l, h1, h2, h3⟩ => ⟨p, l, h1, by rw [upd_ne (fun z => by subst z; rw [h] at h2; cases h2)]; exact h2, h3⟩,
   fun {v H d od u} h ⟨p, l, h1, h2, h3⟩ => ⟨p, l, h1, by rw [upd_ne (fun z => by subst z; rw [h] at h2; cases h2)]; exact h2, h3⟩⟩
theorem stb_tupE {l : List V} : Stb (fun x H => ∃ p, x = .ref p ∧ H p = some (.tup l)) :=
  ⟨fun e ⟨p, h1, h2⟩ => ⟨p, h1, e _ _ h2⟩, fun {v H D acc acc'} h ⟨p, h1, h2⟩ => ⟨p, h1, by rw [upd_ne (fun z => by subst z; rw [h] at h2; cases h2)]; exact h2⟩,
   fun {v H d od u} h ⟨p, h1, h2⟩ => ⟨p, h1, by rw [upd_ne (fun z => by subst z; rw [h] at h2; cases h2)]; exact h2⟩⟩
theorem stb_and {R S : V → Hp → Prop} (r : Stb R) (s : Stb S) : Stb (fun v H => R v H ∧ S v H) := ⟨fun e h => ⟨r.ex e h.1, s.ex e h.2⟩, fun h z => ⟨r.up h z.1, s.up h z.2⟩, fun h z => ⟨r.un h z.1, s.un h z.2⟩⟩
theorem stb_or {R S : V → Hp → Prop} (r : Stb R) (s : Stb S) : Stb (fun v H => R v H ∨ S v H) := ⟨fun e h => h.imp (r.ex e) (s.ex e), fun h z => z.imp (r.up h) (s.up h), fun h z => z.imp (r.un h) (s.un h)⟩
theorem stb_ex {α : Type} {R : α → V → Hp → Prop} (r : ∀ a, Stb (R a)) : Stb (fun v H => ∃ a, R a v H) := ⟨fun e ⟨a, h⟩ => ⟨a, (r a).ex e h⟩, fun h ⟨a, z⟩ => ⟨a, (r a).up h z⟩, fun h ⟨a, z⟩ => ⟨a, (r a).un h z⟩⟩
def PairsR {α : Type} (R : α → V → Hp → Prop) (vs : List V) (as : List α) (H : Hp) : Prop := Paired (fun v a => R a v H) vs as
theorem PairsR.ex {α : Type} {R : α → V → Hp → Prop} (st : ∀ a, Stb (R a)) {vs : List V} {as : List α} {H H' : Hp} (e : Ex H H') (h : PairsR R vs as H) : PairsR R vs as H' := Paired.mapP h fun v a r => (st a).ex e r
theorem PairsR.up {α : Type} {R : α → V → Hp → Prop} (st : ∀ a, Stb (R a)) {vs : List V} {as : List α} {H : Hp} {D : Addr} {acc acc' : List V} (hd : H D = some (.lst acc)) (h : PairsR R vs as H) : PairsR R vs as (upd H D (.lst acc')) := Paired.mapP h fun v a r => (st a).up hd r
theorem PairsR.un {α : Type} {R : α → V → Hp → Prop} (st : ∀ a, Stb (R a)) {vs : List V} {as : List α} {H : Hp} {d : Addr} {od : Obj} {u : HO} (hd : H d = some (.frz od u)) (h : PairsR R vs as H) : PairsR R vs as (upd H d u) := Paired.mapP h fun v a r => (st a).un hd r
theorem paired_snoc {α β : Type} {F : α → β → Prop} : ∀ {xs : List α} {ys : List β} {x : α} {y : β}, Paired F xs ys → F x y → Paired F (xs ++ [x]) (ys ++ [y])
  | _, _, _, _, .nil, h => .cons h .nil
  | _, _, _, _, .cons r t, h => .cons r (paired_snoc t h)
theorem paired_eq {α : Type} {g : α → V} : ∀ {vs : List V} {as : List α}, Paired (fun v a => v = g a) vs as → vs = as.map g
  | _, _, .nil => rfl
  | _, _, .cons r t => by rw [List.map_cons, ← paired_eq t, r]
theorem paired_len {α β : Type} {F : α → β → Prop} {xs : List α} {ys : List β} (h : Paired F xs ys) : xs.length = ys.length := Paired.length h
theorem paired_of_eq {α : Type} {g : α → V} : ∀ (as : List α), Paired (fun v a => v = g a) (as.map g) as
  | [] => .nil
  | a :: as => .cons rfl (paired_of_eq as)
theorem prd_at {α β : Type} {F : α → β → Prop} : ∀ {xs : List α} {ys : List β} {i : Nat} {x : α}, Paired F xs ys → xs[i]? = some x → ∃ y, ys[i]? = some y ∧ F x y
  | _, _, _, _, .nil, e => by simp at e
  | _, _, 0, _, .cons r _, e => by simp at e; subst e; exact ⟨_, rfl, r⟩
  | _, _, i + 1, x, .cons _ t, e => by
    obtain ⟨u, h1, h2⟩ := prd_at (i := i) (x := x) t (by simpa using e)
    exact ⟨u, by simpa using h1, h2⟩
theorem prd_at' {α β : Type} {F : α → β → Prop} : ∀ {xs : List α} {ys : List β} {i : Nat} {y : β}, Paired F xs ys → ys[i]? = some y → ∃ x, xs[i]? = some x ∧ F x y
  | _, _, _, _, .nil, e => by simp at e
  | _, _, 0, _, .cons r _, e => by simp at e; subst e; exact ⟨_, rfl, r⟩
  | _, _, i + 1, x, .cons _ t, e => by
    obtain ⟨u, h1, h2⟩ := prd_at' (i := i) (y := x) t (by simpa using e)
    exact ⟨u, by simpa using h1, h2⟩
/-- what is walked gives the values xs, one after another, the heap as it is -/
structure Src (X : Cx) (tg iter : Expr) (σ : L2.St) (H : Hp) (xs : List V) : Prop where
  ex : ∃ wi : TI, PI X tg iter wi ∧ ∀ H1, Ex H H1 → ∀ R : It → Hp → Prop, (∀ (J : It) (G : Hp → Prop) H2, Ex H1 H2 → Walk J xs.length G (YAt xs) → G H2 → (∀ H3 H4, Ex H3 H4 → G H3 → G H4) → (∀ H3 D l, H2 D = none → G H3 → G (upd H3 D (.lst l))) → R J H2) → wi σ H1 R
section
variable {X : Cx} {tg iter : Expr} {σ : L2.St} {H : Hp} {a d : Addr} {xs : List V} {α : Type} {as : List α} {Rp : α → V → Prop} {pos p1 p2 apos : Pos}
theorem sq_keep {K : PySem.W.Frag} {H2 H3 : Hp} {D : Addr} {l : List V} (h0 : SqL K H2 a xs) (n : H2 D = none) (h : SqL K H3 a xs) : SqL K (upd H3 D (.lst l)) a xs := by
  by_cases e : a = D
  · subst e
    rcases h0 with (h0 | ⟨o, h0⟩) | h0
    · rw [n] at h0; cases h0
    · rw [n] at h0; cases h0
    · exact .inr h0
  · rcases h with (h | ⟨o, h⟩) | h
    · exact .inl (.inl (by rw [upd_ne e]; exact h))
    · exact .inl (.inr ⟨o, by rw [upd_ne e]; exact h⟩)
    · exact .inr h
theorem sqt_keep {K : PySem.W.Frag} {H2 H3 : Hp} {D : Addr} {l : List V} (h0 : SqT K H2 a xs) (n : H2 D = none) (h : SqT K H3 a xs) : SqT K (upd H3 D (.lst l)) a xs := by
  by_cases e : a = D
  · subst e
    rcases h0 with (h0 | ⟨o, h0⟩) | h0
    · rw [n] at h0; cases h0
    · rw [n] at h0; cases h0
    · exact .inr h0
  · rcases h with (h | ⟨o, h⟩) | h
    · exact .inl (.inl (by rw [upd_ne e]; exact h))
    · exact .inl (.inr ⟨o, by rw [upd_ne e]; exact h⟩)
    · exact .inr h
theorem walk_str' {z : Str} : Walk (Its z) (z.cps.toList.map fun c => V.str ⟨#[c]⟩).length (fun _ => True) (YAt (z.cps.toList.map fun c => V.str ⟨#[c]⟩)) := by
  have e : (z.cps.toList.map fun c => V.str ⟨#[c]⟩).length = z.cps.size := by rw [List.length_map, Array.length_toList]
  rw [e]
  refine walk_str.mono (fun _ h => h) fun i H x H' _ _ ⟨h1, c, h2, h3⟩ => ⟨h1, ?_⟩
  rw [List.getElem?_map, Array.getElem?_toList, h2, h3] <;> rfl
/-- a list, a tuple, a new list, a displayed tuple, a text, a range -/
theorem src_l (h : XE X iter σ H (.ref a)) (hx : SqL X.K H a xs) : Src X tg iter σ H xs := ⟨_, pi_list peT, fun H1 e1 R k => h H1 e1 _ fun H2 e2 =>
  ⟨a, rfl, ⟨xs, ex_l (e1.trans e2) hx⟩, k (Itl X.K a) (fun H => SqL X.K H a xs) H2 e2 walk_list (ex_l (e1.trans e2) hx) (fun _ _ e q => ex_l e q) fun H3 D l n q => sq_keep (ex_l (e1.trans e2) hx) n q⟩⟩
theorem src_t (h : XE X iter σ H (.ref a)) (hx : SqT X.K H a xs) : Src X tg iter σ H xs := ⟨_, pi_tup peT, fun H1 e1 R k => h H1 e1 _ fun H2 e2 =>
  ⟨a, rfl, ⟨xs, ex_t (e1.trans e2) hx⟩, k (Itt X.K a) (fun H => SqT X.K H a xs) H2 e2 walk_tup (ex_t (e1.trans e2) hx) (fun _ _ e q => ex_t e q) fun H3 D l n q => sqt_keep (ex_t (e1.trans e2) hx) n q⟩⟩
theorem src_nl (h : XL X iter σ H xs) : Src X tg iter σ H xs := ⟨_, pi_list peT, fun H1 e1 R k => h H1 e1 _ fun a H2 _ e2 hx =>
  ⟨a, rfl, ⟨xs, sq_of hx⟩, k (Itl X.K a) (fun H => SqL X.K H a xs) H2 e2 walk_list (sq_of hx) (fun _ _ e q => ex_l e q) fun H3 D l n q => sq_keep (sq_of hx) n q⟩⟩
theorem src_nt (h : XU X iter σ H xs) : Src X tg iter σ H xs := ⟨_, pi_tup peT, fun H1 e1 R k => h H1 e1 _ fun a H2 _ e2 hx =>
  ⟨a, rfl, ⟨xs, st_of hx⟩, k (Itt X.K a) (fun H => SqT X.K H a xs) H2 e2 walk_tup (st_of hx) (fun _ _ e q => ex_t e q) fun H3 D l n q => sqt_keep (st_of hx) n q⟩⟩
theorem src_s {z : Str} (h : XE X iter σ H (.str z)) : Src X tg iter σ H (z.cps.toList.map fun c => V.str ⟨#[c]⟩) := ⟨_, pi_str peT, fun H1 e1 R k => h H1 e1 _ fun H2 e2 =>
  ⟨z, rfl, k (Its z) (fun _ => True) H2 e2 walk_str' trivial (fun _ _ _ q => q) fun _ _ _ _ q => q⟩⟩
theorem walk_range' {n : Nat} : Walk (Itr 0 n) ((List.range n).map fun i => V.int (i : Nat)).length (fun _ => True) (YAt ((List.range n).map fun i => V.int (i : Nat))) := by
  have e : ((List.range n).map fun i => V.int (i : Nat)).length = n := by rw [List.length_map, List.length_range]
  rw [e]
  refine walk_range.mono (fun _ h => h) fun i H x H' hi _ ⟨h1, h2⟩ => ⟨h1, ?_⟩
  rw [List.getElem?_map, List.getElem?_range hi, h2]
  show some (V.int (i : Int)) = some (V.int ((0 : Int) + (i : Int)))
  rw [Int.zero_add]
theorem src_r {n : Int} {e : Expr} (hm : X.mg "range" = none) (h : XE X e σ H (.int n)) (hn : 0 ≤ n ∧ n ≤ 100000) (hg : Gl X "range" := by rfl) (hs : starEach [e] X.env = [(false, eval e X.env)] := by rfl) : Src X tg (.Call (.Name "range" p1) [e] [] pos) σ H ((List.range n.toNat).map fun i => V.int (i : Nat)) :=
  ⟨_, pi_range1 hg hm paT hs, fun H1 e1 R k => (x_acons h x_anil hs) H1 e1 _ fun H2 e2 => ⟨n, rfl, by omega, by omega, k (Itr 0 n.toNat) (fun _ => True) H2 e2 walk_range' trivial (fun _ _ _ q => q) fun _ _ _ _ q => q⟩⟩
/-- a dict's keys, its values: the dict is locked -/
theorem src_k {kvs : List (Key × V)} {o : Obj} (h : XE X iter σ H (.ref d)) (hd : H d = some (.frz o (.dK kvs))) : Src X tg iter σ H (kvs.map fun p => kV p.1) := ⟨_, pi_keys peT, fun H1 e1 R k => h H1 e1 _ fun H2 e2 =>
  ⟨d, o, rfl, .inl ⟨kvs, e2 _ _ (e1 _ _ hd), k (Itk d o kvs) (fun H => H d = some (.frz o (.dK kvs))) H2 e2 (by
    rw [List.length_map]
    refine walk_keys.mono (fun _ h => h) fun i H x H' _ _ ⟨h1, k, v, h2, h3⟩ => ⟨h1, ?_⟩
    rw [List.getElem?_map, h2, h3] <;> rfl) (e2 _ _ (e1 _ _ hd)) (fun _ _ e q => e _ _ q) fun H3 D l n q => by rw [upd_ne (fun z => by subst z; rw [e2 _ _ (e1 _ _ hd)] at n; cases n)]; exact q⟩⟩⟩
theorem src_v {kvs : List (Key × V)} {o : Obj} {e : Expr} (h : XE X e σ H (.ref d)) (hd : H d = some (.frz o (.dK kvs))) (hbase : attributeBase e "values" X.env (eval e X.env) = eval e X.env := by rfl) (hline : (apos.endLine == pos.line) = true := by rfl) : Src X tg (.Call (.Attribute e "values" apos) [] [] pos) σ H (kvs.map (·.2)) := ⟨_, pi_values peT hbase hline, fun H1 e1 R k => h H1 e1 _ fun H2 e2 =>
  ⟨d, o, kvs, rfl, e2 _ _ (e1 _ _ hd), k (Itd d o kvs) (fun H => H d = some (.frz o (.dK kvs))) H2 e2 (by
    rw [List.length_map]
    refine walk_values.mono (fun _ h => h) fun i H x H' _ _ ⟨h1, k, h2⟩ => ⟨h1, ?_⟩
    rw [List.getElem?_map, h2] <;> rfl) (e2 _ _ (e1 _ _ hd)) (fun _ _ e q => e _ _ q) fun H3 D l n q => by rw [upd_ne (fun z => by subst z; rw [e2 _ _ (e1 _ _ hd)] at n; cases n)]; exact q⟩⟩
/-! ### list comprehensions -/
def eB (X : Cx) (sc : Scope) (e : Expr) : TE := fun σ H Q => ∀ (s : Shared) (H0 : Hp) (C : Addr) (cl : List (Str × Addr)) (fp : List Addr), eT (X.blk s H0 sc (compEnvC sc cl C X.env) fp) e σ H Q
def tsT (X : Cx) (ifs : List Expr) : TT := fun σ H Q => ∀ pins s, Inv X pins σ H s → wpAny (model X.prog X.w) X.A (forIn ifs true fun c r => if r = true then do let ok ← isTrue c X.env (eval c X.env); pure (ForInStep.yield ok) else pure (ForInStep.yield r)) (TP X pins σ Q) X.xe s
def tsB (X : Cx) (sc : Scope) (ifs : List Expr) : TT := fun σ H Q => ∀ (s : Shared) (H0 : Hp) (C : Addr) (cl : List (Str × Addr)) (fp : List Addr), tsT (X.blk s H0 sc (compEnvC sc cl C X.env) fp) ifs σ H Q
theorem ptsT {ifs : List Expr} : PTs X ifs (tsT X ifs) := ⟨fun pins s _ _ _ I h => h pins s I⟩
abbrev XTs (X : Cx) (ifs : List Expr) (σ : L2.St) (H : Hp) (b : Bool) : Prop := EvT (tsT X ifs) σ H b
theorem ts_nil : XTs X [] σ H true := fun H1 e Q q pins s I => pts_nil.run pins s σ H1 Q I (q H1 (Ex.refl H1))
theorem ts_one {c : Expr} {b : Bool} (h : XT X c σ H b) : XTs X [c] σ H b := fun H1 e Q q pins s I => (pts_one ptT).run pins s σ H1 Q I (h H1 e Q q)
/-- the block's contexts -/
abbrev bk (X : Cx) (sc : Scope) (s : Shared) (H0 : Hp) (C : Addr) (cl : List (Str × Addr)) (fp : List Addr) : Cx := X.blk s H0 sc (compEnvC sc cl C X.env) fp
variable {elt : Expr} {ifs : List Expr} {scope : Scope} {own : List (Str × Nat)} {f : α → Bool} {R : α → V → Hp → Prop} {τ : α → V → L2.St} {g : TG}
/-- the list so far -/
def LcW (H : Hp) (D : Addr) (as : List α) (f : α → Bool) (R : α → V → Hp → Prop) (i : Nat) (H' : Hp) : Prop := H D = none ∧ Ex H H' ∧ ∃ vs, H' D = some (.lst vs) ∧ PairsR R vs ((as.take i).filter f) H'
theorem xn_lcG (j : List (Str × Nat)) (hN : X.N.Nodup) (src : Src X tg iter σ H xs) (pr : Paired (fun x a => Rp a x) xs as) (st : ∀ a, Stb (R a)) (hz : as.length ≤ 100000)
    (hg : ∀ (s : Shared) (H0 : Hp) (C : Addr) (cl : List (Str × Addr)) (fp : List Addr), PG (bk X scope s H0 C cl fp) tg g) (tgt : ∀ a x H', a ∈ as → Ex H H' → Rp a x → wipe (τ a x) (j.map (·.2)) = wipe σ (j.map (·.2)) ∧ ∀ Q : L2.St → Hp → Prop, Q (τ a x) H' → g x (wipe σ (j.map (·.2))) H' Q)
    (turn : ∀ a x H', a ∈ as → Ex H H' → Rp a x → ∀ (s : Shared) (H0 : Hp) (C : Addr) (cl : List (Str × Addr)) (fp : List Addr), XTs (bk X scope s H0 C cl fp) ifs (τ a x) H' (f a) ∧ (f a = true → XP (bk X scope s H0 C cl fp) elt (τ a x) H' (R a)))
    (hc : X.calm = true := by rfl) (ok : BlkOk X.N X.env.scope scope j := by exact blkOk_by (by kernel_rfl)) (hs : ∀ x, foldedSetIterable iter X.env x = pure x := by intro _; rfl) :
    EvN (tLc (Classical.choose src.ex) g (tsB X scope ifs) (eB X scope elt) (j.map (·.2))) σ H (fun p H2 => ∃ vs, H2 p = some (.lst vs) ∧ PairsR R vs (as.filter f) H2) := fun H1 e1 Q q => by
  have hl : as.length = xs.length := (paired_len pr).symm
  refine (Classical.choose_spec src.ex).2 H1 e1 _ fun J G H2 e2 wk g2 gx gd D hD => ?_
  refine lc_it wk (LcW H2 D as f R) ⟨hD, Ex.new hD, [], upd_same, .nil⟩ (fun i H' hi ⟨_, e, vs, hv, _⟩ => gx _ _ e g2) (fun i x H3 H4 hi ⟨h1, h2, vs, h3, h4⟩ y => ?_) fun H' ⟨h1, h2, vs, h3, h4⟩ => ?_
  · obtain ⟨rfl, hx⟩ := y
    obtain ⟨a, ha, r⟩ := prd_at pr hx
    have hm : a ∈ as := List.mem_of_getElem? ha
    have eH : Ex H H4 := (e1.trans e2).trans h2
    obtain ⟨w1, tg1⟩ := tgt a x H4 hm eH r
    have tk : (as.take (i + 1)).filter f = (as.take i).filter f ++ (if f a = true then [a] else []) := by
      rw [List.take_add_one, ha, List.filter_append]
      simp only [Option.toList_some, List.filter_cons, List.filter_nil]
    refine tg1 _ ⟨w1, fun s H0 C cl fp => ?_⟩
    obtain ⟨t1, t2⟩ := turn a x H4 hm eH r s H0 C cl fp
    refine t1 H4 (Ex.refl H4) _ fun H5 e5 => ?_
    cases hf : f a with
    | false =>
      rw [if_neg Bool.false_ne_true]
      refine ⟨h1, h2.trans e5, vs, e5 _ _ h3, ?_⟩
      rw [tk, hf, if_neg Bool.false_ne_true, List.append_nil]
      exact h4.ex st e5
    | true =>
      rw [if_pos rfl]
      intro s' H0' C' cl' fp'
      refine (turn a x H4 hm eH r s' H0' C' cl' fp').2 hf H5 e5 _ fun v H6 e6 hv => ⟨vs, e6 _ _ (e5 _ _ h3), ?_, h1, Ex.mut ((h2.trans e5).trans e6) h1, vs ++ [v], upd_same, ?_⟩
      · rw [paired_len h4]
        refine Nat.lt_of_le_of_lt (Nat.le_trans (List.length_filter_le _ _) (Nat.le_trans (by rw [List.length_take]; exact Nat.min_le_right _ _) hz)) (by decide)
      · rw [tk, hf, if_pos rfl]
        exact paired_snoc ((h4.ex st (e5.trans e6)).up st (e6 _ _ (e5 _ _ h3))) ((st a).up (e6 _ _ (e5 _ _ h3)) hv)
  · refine q D H' (fresh_back e2 h1) (e2.trans h2) ⟨vs, h3, ?_⟩
    rw [← hl, List.take_length] at h4
    exact h4
theorem pe_lcT (j : List (Str × Nat)) (hN : X.N.Nodup) {wi : TI} (hi : PI X tg iter wi) (hg : ∀ (s : Shared) (H0 : Hp) (C : Addr) (cl : List (Str × Addr)) (fp : List Addr), PG (bk X scope s H0 C cl fp) tg g)
    (hc : X.calm = true := by rfl) (ok : BlkOk X.N X.env.scope scope j := by exact blkOk_by (by kernel_rfl)) (hs : ∀ x, foldedSetIterable iter X.env x = pure x := by intro _; rfl) :
    PE X (.ListComp elt [⟨tg, iter, ifs, 0⟩] scope pos) (tLc wi g (tsB X scope ifs) (eB X scope elt) (j.map (·.2))) :=
  pe_lc hc hN hi ok hg (fun s H0 C cl fp => ⟨fun pins s' σ H Q I h => h s H0 C cl fp pins s' I⟩) (fun s H0 C cl fp => ⟨fun pins s' σ H Q I h => h s H0 C cl fp pins s' I⟩) hs
theorem wipe1 (σ : L2.St) (j : Nat) : wipe σ [j] = σ.set j none := by rfl
theorem wipe1_set (σ : L2.St) (j : Nat) (v : Option V) : wipe ((wipe σ [j]).set j v) [j] = wipe σ [j] := by
  rw [wipe1, wipe1, List.set_set, List.set_set]
theorem wipe2 (σ : L2.St) (j k : Nat) : wipe σ [j, k] = (σ.set j none).set k none ∨ wipe σ [j, k] = (σ.set k none).set j none := by
  first | exact .inl rfl | exact .inr rfl
/-- [elt for y in iter if ..] -/
theorem xn_lc (j : Nat) {y : Str} (src : Src X (.Name y p2) iter σ H xs) (pr : Paired (fun x a => Rp a x) xs as) (st : ∀ a, Stb (R a)) (hz : as.length ≤ 100000)
    (turn : ∀ a x H', a ∈ as → Ex H H' → Rp a x → ∀ (s : Shared) (H0 : Hp) (C : Addr) (cl : List (Str × Addr)) (fp : List Addr), XTs (bk X scope s H0 C cl fp) ifs ((σ.set j none).set j (some x)) H' (f a) ∧ (f a = true → XP (bk X scope s H0 C cl fp) elt ((σ.set j none).set j (some x)) H' (R a)))
    (hN : X.N.Nodup := by assumption) (hg : ∀ (s : Shared) (H0 : Hp) (C : Addr) (cl : List (Str × Addr)) (fp : List Addr), PG (bk X scope s H0 C cl fp) (.Name y p2) (gName j) := by intro _ _ _ _ _; exact pg_name (by assumption) rfl (Or.inl rfl)) (hc : X.calm = true := by rfl) (ok : BlkOk X.N X.env.scope scope [(y, j)] := by exact blkOk_by (by kernel_rfl)) (hs : ∀ x, foldedSetIterable iter X.env x = pure x := by intro _; rfl) :
    XN X (.ListComp elt [⟨.Name y p2, iter, ifs, 0⟩] scope pos) σ H (fun p H2 => ∃ vs, H2 p = some (.lst vs) ∧ PairsR R vs (as.filter f) H2) := fun H1 e Q q =>
  we (pe_lcT [(y, j)] hN (Classical.choose_spec src.ex).1 hg hc ok hs)
    (xn_lcG (f := f) (R := R) (τ := fun a x => (wipe σ [j]).set j (some x)) [(y, j)] hN src pr st hz hg (fun a x H' _ _ _ => ⟨wipe1_set σ j _, fun Q h => h⟩) turn hc ok hs H1 e Q q)
/-- y = [elt for x in iter if ..] -/
theorem s_setLc (i j : Nat) {y z : Str} {els : List Stmt} {D : Ends} (src : Src X (.Name y p2) iter σ H xs) (pr : Paired (fun x a => Rp a x) xs as) (st : ∀ a, Stb (R a)) (hz : as.length ≤ 100000)
    (turn : ∀ a x H', a ∈ as → Ex H H' → Rp a x → ∀ (s : Shared) (H0 : Hp) (C : Addr) (cl : List (Str × Addr)) (fp : List Addr), XTs (bk X scope s H0 C cl fp) ifs ((σ.set j none).set j (some x)) H' (f a) ∧ (f a = true → XP (bk X scope s H0 C cl fp) elt ((σ.set j none).set j (some x)) H' (R a)))
    (q : ∀ p vs H1, H p = none → Ex H H1 → H1 p = some (.lst vs) → PairsR R vs (as.filter f) H1 → XS X els D (σ.set i (some (.ref p))) H1)
    (hN : X.N.Nodup := by assumption) (hz2 : X.N[i]? = some z := by rfl) (hzl : X.env.scope.names.lookup z = some .local := by rfl) (hsw : swapsWith (.ListComp elt [⟨.Name y p2, iter, ifs, 0⟩] scope p1) (some (.Name z apos)) pos.line X.env = pure true := by exact sw_true rfl rfl rfl (by decide +kernel)) (hg : ∀ (s : Shared) (H0 : Hp) (C : Addr) (cl : List (Str × Addr)) (fp : List Addr), PG (bk X scope s H0 C cl fp) (.Name y p2) (gName j) := by intro _ _ _ _ _; exact pg_name (by assumption) rfl (Or.inl rfl))
    (hc : X.calm = true := by rfl) (ok : BlkOk X.N X.env.scope scope [(y, j)] := by exact blkOk_by (by kernel_rfl)) (hs : ∀ x, foldedSetIterable iter X.env x = pure x := by intro _; rfl) :
    XS X (.Assign [.Name z apos] (.ListComp elt [⟨.Name y p2, iter, ifs, 0⟩] scope p1) pos :: els) D σ H := fun H1 e =>
  b_cons (ws (ps_setLc hc hN hz2 hzl hsw (Classical.choose_spec src.ex).1 ok hg (fun s H0 C cl fp => ⟨fun pins s' σ H Q I h => h s H0 C cl fp pins s' I⟩) (fun s H0 C cl fp => ⟨fun pins s' σ H Q I h => h s H0 C cl fp pins s' I⟩) hs)
    (xn_lcG (f := f) (R := R) (τ := fun a x => (wipe σ [j]).set j (some x)) [(y, j)] hN src pr st hz hg (fun a x H' _ _ _ => ⟨wipe1_set σ j _, fun Q h => h⟩) turn hc ok hs H1 e _ fun p H2 hp e2 ⟨vs, h1, h2⟩ => q p vs H2 (fresh_back e hp) (e.trans e2) h1 h2 H2 (Ex.refl H2)))
/-- results that are exact -/
theorem stb_at (g : α → V) : ∀ a, Stb (fun v (_ : Hp) => v = g a) := fun a => stb_eq
theorem xl_of_n {e : Expr} {g : α → V} (h : XN X e σ H (fun p H2 => ∃ vs, H2 p = some (.lst vs) ∧ PairsR (fun a v _ => v = g a) vs as H2)) : XL X e σ H (as.map g) := fun H1 e1 Q q => h H1 e1 Q fun p H2 hp e2 ⟨vs, h1, h2⟩ => q p H2 hp e2 (by rw [h1, paired_eq h2])
theorem xn_imp {e : Expr} {S S' : Addr → Hp → Prop} (h : XN X e σ H S) (i : ∀ p H2, Ex H H2 → S p H2 → S' p H2) : XN X e σ H S' := fun H1 e1 Q q => h H1 e1 Q fun p H2 hp e2 s2 => q p H2 hp e2 (i p H2 (e1.trans e2) s2)
theorem xn_mono {e : Expr} {S : Addr → Hp → Prop} {H' : Hp} (h : XN X e σ H S) (e1 : Ex H H') : XN X e σ H' S := fun H1 e2 Q q => h H1 (e1.trans e2) Q q
/-- [elt for y in iter if ..], what comes and what is given exact -/
theorem x_lcE {rp : α → V} (j : Nat) {y : Str} (f : α → Bool) (g : α → V) (src : Src X (.Name y p2) iter σ H (as.map rp)) (hz : as.length ≤ 100000)
    (turn : ∀ a H', a ∈ as → Ex H H' → ∀ (s : Shared) (H0 : Hp) (C : Addr) (cl : List (Str × Addr)) (fp : List Addr), XTs (bk X scope s H0 C cl fp) ifs ((σ.set j none).set j (some (rp a))) H' (f a) ∧ (f a = true → XE (bk X scope s H0 C cl fp) elt ((σ.set j none).set j (some (rp a))) H' (g a)))
    (hN : X.N.Nodup := by assumption) (hg : ∀ (s : Shared) (H0 : Hp) (C : Addr) (cl : List (Str × Addr)) (fp : List Addr), PG (bk X scope s H0 C cl fp) (.Name y p2) (gName j) := by intro _ _ _ _ _; exact pg_name (by assumption) rfl (Or.inl rfl)) (hc : X.calm = true := by rfl) (ok : BlkOk X.N X.env.scope scope [(y, j)] := by exact blkOk_by (by kernel_rfl)) (hs : ∀ x, foldedSetIterable iter X.env x = pure x := by intro _; rfl) :
    XL X (.ListComp elt [⟨.Name y p2, iter, ifs, 0⟩] scope pos) σ H ((as.filter f).map g) :=
  xl_of_n (xn_lc (f := f) (R := fun a v _ => v = g a) (Rp := fun a x => x = rp a) j src (paired_of_eq as) (fun a => stb_eq) hz (fun a x H' ha e r s H0 C cl fp => by
    subst r
    exact ⟨(turn a H' ha e s H0 C cl fp).1, fun hf => xp_e ((turn a H' ha e s H0 C cl fp).2 hf)⟩) hN hg hc ok hs)
theorem s_setLcE {rp : α → V} (i j : Nat) {y z : Str} {els : List Stmt} {D : Ends} (f : α → Bool) (g : α → V) (src : Src X (.Name y p2) iter σ H (as.map rp)) (hz : as.length ≤ 100000)
    (turn : ∀ a H', a ∈ as → Ex H H' → ∀ (s : Shared) (H0 : Hp) (C : Addr) (cl : List (Str × Addr)) (fp : List Addr), XTs (bk X scope s H0 C cl fp) ifs ((σ.set j none).set j (some (rp a))) H' (f a) ∧ (f a = true → XE (bk X scope s H0 C cl fp) elt ((σ.set j none).set j (some (rp a))) H' (g a)))
    (q : ∀ p H1, H p = none → Ex H H1 → H1 p = some (.lst ((as.filter f).map g)) → XS X els D (σ.set i (some (.ref p))) H1)
    (hN : X.N.Nodup := by assumption) (hz2 : X.N[i]? = some z := by rfl) (hzl : X.env.scope.names.lookup z = some .local := by rfl) (hsw : swapsWith (.ListComp elt [⟨.Name y p2, iter, ifs, 0⟩] scope p1) (some (.Name z apos)) pos.line X.env = pure true := by exact sw_true rfl rfl rfl (by decide +kernel)) (hg : ∀ (s : Shared) (H0 : Hp) (C : Addr) (cl : List (Str × Addr)) (fp : List Addr), PG (bk X scope s H0 C cl fp) (.Name y p2) (gName j) := by intro _ _ _ _ _; exact pg_name (by assumption) rfl (Or.inl rfl))
    (hc : X.calm = true := by rfl) (ok : BlkOk X.N X.env.scope scope [(y, j)] := by exact blkOk_by (by kernel_rfl)) (hs : ∀ x, foldedSetIterable iter X.env x = pure x := by intro _; rfl) :
    XS X (.Assign [.Name z apos] (.ListComp elt [⟨.Name y p2, iter, ifs, 0⟩] scope p1) pos :: els) D σ H :=
  s_setLc (f := f) (R := fun a v _ => v = g a) (Rp := fun a x => x = rp a) i j src (paired_of_eq as) (fun a => stb_eq) hz (fun a x H' ha e r s H0 C cl fp => by
    subst r
    exact ⟨(turn a H' ha e s H0 C cl fp).1, fun hf => xp_e ((turn a H' ha e s H0 C cl fp).2 hf)⟩) (fun p vs H1 hp e h1 h2 => q p H1 hp e (by rw [h1, paired_eq h2])) hN hz2 hzl hsw hg hc ok hs
theorem filter_yes {α : Type} (as : List α) : as.filter (fun _ => true) = as := List.filter_eq_self.mpr fun _ _ => rfl
/-! ### while something is locked -/
theorem ex_unlock {H H1 H2 : Hp} {d : Addr} {od : Obj} {u : HO} (hd : H1 d = some u) (e : Ex (upd H1 d (.frz od u)) H2) : Ex H1 (upd H2 d u) := fun a o h => by
  by_cases z : a = d
  · subst z
    rw [upd_same, ← hd]
    exact h
  · rw [upd_ne z]
    exact e a o (by rw [upd_ne z]; exact h)
theorem ex_lock {H H1 : Hp} {d : Addr} {o : HO} (e : Ex H H1) : Ex (upd H d o) (upd H1 d o) := fun a u h => by
  by_cases z : a = d
  · subst z
    rw [upd_same] at h ⊢
    exact h
  · rw [upd_ne z] at h ⊢
    exact e a u h
/-- what evaluates while the thing at d is locked -/
theorem xn_lock {e : Expr} {u : HO} {S : Addr → Hp → Prop} (hd : H d = some u) (mu : Mut (some u)) (h : ∀ od, XN X e σ (upd H d (.frz od u)) S) (hS : ∀ p H2 od, p ≠ d → H2 d = some (.frz od u) → S p H2 → S p (upd H2 d u)) : XN X e σ H S := fun H1 e1 Q q =>
  we (pe_lock peT) ⟨d, u, e1 _ _ hd, mu, fun od => h od _ (ex_lock e1) _ fun p H2 hp e2 r => by
    have hd2 : H2 d = some (.frz od u) := e2 _ _ upd_same
    have npd : p ≠ d := fun z => by rw [z, upd_same] at hp; cases hp
    exact ⟨hd2, q p _ (by rw [upd_ne npd] at hp; exact hp) (ex_unlock (H := H) (e1 _ _ hd) e2) (hS p H2 od npd hd2 r)⟩⟩
/-! ### calls with a new list -/
variable {e : Expr} {es : List Expr} {z : V} {bi : String} {r : List V → Hp → VK → Prop}
theorem x_blt_n {S : Addr → Hp → Prop} {x : Str} (hc : CallR X (.builtin bi) r) (hm : X.mg x = none) (hv : bootBuiltins x = some (.builtin bi)) (ha : XN X e σ H S) (hr : ∀ p H2, Ex H H2 → S p H2 → RC r [.ref p] H2 z) (hg : Gl X x := by rfl) (hn : x ≠ "__name__" := by decide) (hdb : (x == ("__debug__" : Str)) = false := by decide)
    (he : starEach [e] X.env = (false, eval e X.env) :: starEach [] X.env := by rfl) (hpl : (backTo pos (starEach [] X.env)).any (·.1) = false := by rfl) : XE X (.Call (.Name x p1) [e] [] pos) σ H z :=
  xe (pe_callB hc hg hm hv paT hn hdb he hpl) fun H1 e1 Q q => wa (pa_cons peT pa_nil he) (ha H1 e1 _ fun p H2 hp e2 s2 => hr p H2 (e1.trans e2) s2 H2 (Ex.refl H2) Q fun H3 e3 => q H3 (e2.trans e3))
/-- a call that gives a new thing -/
def RCN (r : List V → Hp → VK → Prop) (vs : List V) (H : Hp) (S : Addr → Hp → Prop) : Prop := ∀ H1, Ex H H1 → ∀ Q : VK, (∀ p H2, H1 p = none → Ex H1 H2 → S p H2 → Q (.ref p) H2) → r vs H1 Q
theorem xn_blt {S : Addr → Hp → Prop} {x : Str} {vs : List V} (hc : CallR X (.builtin bi) r) (hm : X.mg x = none) (hv : bootBuiltins x = some (.builtin bi)) (ha : XA X (e :: es) σ H vs) (hr : RCN r vs H S) (hg : Gl X x := by rfl) (hn : x ≠ "__name__" := by decide) (hdb : (x == ("__debug__" : Str)) = false := by decide)
    (he : starEach (e :: es) X.env = (false, eval e X.env) :: starEach es X.env := by rfl) (hpl : (backTo pos (starEach es X.env)).any (·.1) = false := by rfl) : XN X (.Call (.Name x p1) (e :: es) [] pos) σ H S :=
  xn (pe_callB hc hg hm hv paT hn hdb he hpl) fun H1 e1 Q q => ha H1 e1 _ fun H2 e2 => hr H2 (e1.trans e2) Q fun p H3 hp e3 s3 => q p H3 (fresh_back e2 hp) (e2.trans e3) s3
theorem xn_blt_n {S S' : Addr → Hp → Prop} {x : Str} (hc : CallR X (.builtin bi) r) (hm : X.mg x = none) (hv : bootBuiltins x = some (.builtin bi)) (ha : XN X e σ H S) (hr : ∀ p H2, Ex H H2 → S p H2 → RCN r [.ref p] H2 S') (hg : Gl X x := by rfl) (hn : x ≠ "__name__" := by decide) (hdb : (x == ("__debug__" : Str)) = false := by decide)
    (he : starEach [e] X.env = (false, eval e X.env) :: starEach [] X.env := by rfl) (hpl : (backTo pos (starEach [] X.env)).any (·.1) = false := by rfl) : XN X (.Call (.Name x p1) [e] [] pos) σ H S' :=
  xn (pe_callB hc hg hm hv paT hn hdb he hpl) fun H1 e1 Q q => wa (pa_cons peT pa_nil he) (ha H1 e1 _ fun p H2 hp e2 s2 => hr p H2 (e1.trans e2) s2 H2 (Ex.refl H2) Q fun p3 H3 hp3 e3 s3 => q p3 H3 (fresh_back e2 hp3) (e2.trans e3) s3)
theorem xn_ty {S : Addr → Hp → Prop} {x : Str} {vs : List V} (hc : CallR X (.type bi) r) (hm : X.mg x = none) (hv : bootBuiltins x = some (.type bi)) (ha : XA X (e :: es) σ H vs) (hr : RCN r vs H S) (hg : Gl X x := by rfl) (hn : x ≠ "__name__" := by decide) (hdb : (x == ("__debug__" : Str)) = false := by decide)
    (he : starEach (e :: es) X.env = (false, eval e X.env) :: starEach es X.env := by rfl) (hpl : (backTo pos (starEach es X.env)).any (·.1) = false := by rfl) : XN X (.Call (.Name x p1) (e :: es) [] pos) σ H S :=
  xn (pe_callTy hc hg hm hv paT hn hdb he hpl) fun H1 e1 Q q => ha H1 e1 _ fun H2 e2 => hr H2 (e1.trans e2) Q fun p H3 hp e3 s3 => q p H3 (fresh_back e2 hp) (e2.trans e3) s3
theorem xn_ty_n {S S' : Addr → Hp → Prop} {x : Str} (hc : CallR X (.type bi) r) (hm : X.mg x = none) (hv : bootBuiltins x = some (.type bi)) (ha : XN X e σ H S) (hr : ∀ p H2, Ex H H2 → S p H2 → RCN r [.ref p] H2 S') (hg : Gl X x := by rfl) (hn : x ≠ "__name__" := by decide) (hdb : (x == ("__debug__" : Str)) = false := by decide)
    (he : starEach [e] X.env = (false, eval e X.env) :: starEach [] X.env := by rfl) (hpl : (backTo pos (starEach [] X.env)).any (·.1) = false := by rfl) : XN X (.Call (.Name x p1) [e] [] pos) σ H S' :=
  xn (pe_callTy hc hg hm hv paT hn hdb he hpl) fun H1 e1 Q q => wa (pa_cons peT pa_nil he) (ha H1 e1 _ fun p H2 hp e2 s2 => hr p H2 (e1.trans e2) s2 H2 (Ex.refl H2) Q fun p3 H3 hp3 e3 s3 => q p3 H3 (fresh_back e2 hp3) (e2.trans e3) s3)
theorem boot_all : bootBuiltins "all" = some (.builtin "all") := by decide +kernel
theorem boot_list : bootBuiltins "list" = some (.type "list") := by decide +kernel
theorem boot_sorted : bootBuiltins "sorted" = some (.builtin "sorted") := by decide +kernel
/-- all([..]) of a list of truth values -/
theorem x_all {bs : List Bool} (hm : X.mg "all" = none) (ha : XN X e σ H (fun p H2 => H2 p = some (.lst (bs.map V.bl)))) (hc : X.calm = true := by rfl) (hg : Gl X "all" := by rfl)
    (he : starEach [e] X.env = (false, eval e X.env) :: starEach [] X.env := by rfl) (hpl : (backTo pos (starEach [] X.env)).any (·.1) = false := by rfl) : XE X (.Call (.Name "all" p1) [e] [] pos) σ H (.bl (bs.all id)) :=
  x_blt_n (cr_all hc) hm boot_all ha (fun p H2 _ h2 H3 e3 Q q => ⟨p, bs, rfl, sq_of (e3 _ _ h2), q H3 (Ex.refl H3)⟩) hg (by decide) (by decide) he hpl
/-- s in t, s one sign -/
theorem x_inSign {c d : Expr} {n : Nat} {t : Str} (ha : XE X c σ H (.str ⟨#[n]⟩)) (hb : XE X d σ H (.str t)) (hm : behindInMarks .In d = false := by rfl) : XE X (.Compare c [.In] [d] pos) σ H (.bl (decide (n ∈ t.cps.toList))) := x_cmp op_in_sign ha hb (fun H1 e Q q => ⟨n, t, rfl, rfl, q H1 (Ex.refl H1)⟩) hm
theorem x_niSign {c d : Expr} {n : Nat} {t : Str} (ha : XE X c σ H (.str ⟨#[n]⟩)) (hb : XE X d σ H (.str t)) (hm : behindInMarks .NotIn d = false := by rfl) : XE X (.Compare c [.NotIn] [d] pos) σ H (.bl (!decide (n ∈ t.cps.toList))) := x_cmp op_notIn_sign ha hb (fun H1 e Q q => ⟨n, t, rfl, rfl, q H1 (Ex.refl H1)⟩) hm
theorem t_niSign {c d : Expr} {n : Nat} {t : Str} (ha : XE X c σ H (.str ⟨#[n]⟩)) (hb : XE X d σ H (.str t)) (hm : behindInMarks .NotIn d = false := by rfl) : XT X (.Compare c [.NotIn] [d] pos) σ H (!decide (n ∈ t.cps.toList)) := t_cmp op_notIn_sign ha hb (fun H1 e Q q => ⟨n, t, rfl, rfl, q H1 (Ex.refl H1)⟩) hm
/-- i <= j <= k -/
theorem t_chain {a c d : Expr} {i j k : Int} (ha : XE X a σ H (.int i)) (hb : XE X c σ H (.int j)) (hd : XE X d σ H (.int k)) (hm : lastMarks [.LtE, .LtE] [c, d] = false := by rfl) : XT X (.Compare a [.LtE, .LtE] [c, d] pos) σ H (decide (i ≤ j) && decide (j ≤ k)) :=
  xt (pt_chain op_le op_le peT peT peT hm) fun H1 e Q q => ha H1 e _ fun H2 e2 => hb H2 (e.trans e2) _ fun H3 e3 => ⟨i, j, rfl, rfl, _, rfl, by
    by_cases h : i ≤ j
    · rw [decide_eq_true h, if_pos rfl]
      rw [decide_eq_true h, Bool.true_and] at q
      exact hd H3 ((e.trans e2).trans e3) _ fun H4 e4 => ⟨j, k, rfl, rfl, _, rfl, q H4 ((e2.trans e3).trans e4)⟩
    · rw [decide_eq_false h, if_neg Bool.false_ne_true]
      rw [decide_eq_false h, Bool.false_and] at q
      exact ⟨_, rfl, q H3 (e2.trans e3)⟩⟩
/-- len of a text, of a list, of a tuple -/
theorem x_lenS {s : Str} (hm : X.mg "len" = none) (ha : XE X e σ H (.str s)) (hl : s.length ≤ 100000) (hg : Gl X "len" := by rfl) (he : starEach [e] X.env = (false, eval e X.env) :: starEach [] X.env := by rfl) (hpl : (backTo pos (starEach [] X.env)).any (·.1) = false := by rfl) :
    XE X (.Call (.Name "len" p1) [e] [] pos) σ H (.int (s.length : Int)) := x_blt call_len_str hm boot_len' (x_acons ha x_anil he) (fun H1 _ Q q => ⟨s, rfl, sz_of hl, q H1 (Ex.refl H1)⟩) hg (by decide) (by decide) he hpl
theorem x_lenL (hm : X.mg "len" = none) (ha : XE X e σ H (.ref a)) (hx : SqL X.K H a xs) (hg : Gl X "len" := by rfl) (he : starEach [e] X.env = (false, eval e X.env) :: starEach [] X.env := by rfl) (hpl : (backTo pos (starEach [] X.env)).any (·.1) = false := by rfl) :
    XE X (.Call (.Name "len" p1) [e] [] pos) σ H (.int (xs.length : Int)) := x_blt call_len_seq hm boot_len' (x_acons ha x_anil he) (fun H1 e1 Q q => ⟨a, xs, rfl, .inl (ex_l e1 hx), q H1 (Ex.refl H1)⟩) hg (by decide) (by decide) he hpl
theorem x_lenT (hm : X.mg "len" = none) (ha : XE X e σ H (.ref a)) (hx : SqT X.K H a xs) (hg : Gl X "len" := by rfl) (he : starEach [e] X.env = (false, eval e X.env) :: starEach [] X.env := by rfl) (hpl : (backTo pos (starEach [] X.env)).any (·.1) = false := by rfl) :
    XE X (.Call (.Name "len" p1) [e] [] pos) σ H (.int (xs.length : Int)) := x_blt call_len_seq hm boot_len' (x_acons ha x_anil he) (fun H1 e1 Q q => ⟨a, xs, rfl, .inr (ex_t e1 hx), q H1 (Ex.refl H1)⟩) hg (by decide) (by decide) he hpl
end
end Lx
/-! LsF -/
set_option Elab.async false
set_option linter.all false
set_option maxRecDepth 100000
namespace Lx
open PySem PySem.Spec PyProof.Rows L2 Evl
section
variable {X : Cx} {tg iter e c : Expr} {body rest els : List Stmt} {σ : L2.St} {H : Hp} {D : Ends} {a d : Addr} {pos p1 p2 apos : Pos} {g : TG}
/-- the ends within a loop's body -/
abbrev inLoop (X : Cx) (rest : List Stmt) (D : Ends) (N : L2.St → Hp → Prop) : Ends := { nx := N, rt := D.rt, bk := fun σ H => bT X rest D σ H, ct := N }
theorem b_ret {v : V} (h : XE X e σ H v) (q : ∀ H1, Ex H H1 → D.rt v H1) : bT X (.Return (some e) pos :: rest) D σ H := (s_ret h q).run
/-- for over a list -/
theorem b_forL {S : V → Hp → Prop} (h : XP X iter σ H S) (hg : PG X tg g)
    (k : ∀ v H1, Ex H H1 → S v H1 → ∃ (p : Addr) (xs : List V) (Pv : Nat → L2.St → Hp → Prop), v = .ref p ∧ Pv 0 σ H1 ∧ (∀ i σ' H', Pv i σ' H' → SqL X.K H' p xs) ∧
      (∀ i x σ' H', xs[i]? = some x → Pv i σ' H' → g x σ' H' fun σ2 H2 => bT X body (inLoop X rest D (Pv (i + 1))) σ2 H2) ∧ ∀ σ' H', Pv xs.length σ' H' → bT X rest D σ' H')
    (hp : PassesOwn (model X.prog X.w) X.A X.env X.xe := by exact PassesOwn.never) (hc : X.calm = true := by rfl) (hs : ∀ x, foldedSetIterable iter X.env x = pure x := by intro _; rfl) : bT X (.For tg iter body [] pos :: rest) D σ H :=
  b_cons (ws (ps_for hp hc (pi_list peT) hg pbT hs) (h H (Ex.refl H) _ fun v H1 e1 s1 => by
    obtain ⟨p, xs, Pv, rfl, h0, hl, hst, hd⟩ := k v H1 e1 s1
    exact ⟨p, rfl, ⟨xs, hl 0 σ H1 h0⟩, for_list Pv h0 (fun i σ' H' _ q => hl i σ' H' q) hst hd⟩))
/-- for over a tuple -/
theorem b_forT {S : V → Hp → Prop} (h : XP X iter σ H S) (hg : PG X tg g)
    (k : ∀ v H1, Ex H H1 → S v H1 → ∃ (p : Addr) (xs : List V) (Pv : Nat → L2.St → Hp → Prop), v = .ref p ∧ Pv 0 σ H1 ∧ (∀ i σ' H', Pv i σ' H' → SqT X.K H' p xs) ∧
      (∀ i x σ' H', xs[i]? = some x → Pv i σ' H' → g x σ' H' fun σ2 H2 => bT X body (inLoop X rest D (Pv (i + 1))) σ2 H2) ∧ ∀ σ' H', Pv xs.length σ' H' → bT X rest D σ' H')
    (hp : PassesOwn (model X.prog X.w) X.A X.env X.xe := by exact PassesOwn.never) (hc : X.calm = true := by rfl) (hs : ∀ x, foldedSetIterable iter X.env x = pure x := by intro _; rfl) : bT X (.For tg iter body [] pos :: rest) D σ H :=
  b_cons (ws (ps_for hp hc (pi_tup peT) hg pbT hs) (h H (Ex.refl H) _ fun v H1 e1 s1 => by
    obtain ⟨p, xs, Pv, rfl, h0, hl, hst, hd⟩ := k v H1 e1 s1
    exact ⟨p, rfl, ⟨xs, hl 0 σ H1 h0⟩, for_tup Pv h0 (fun i σ' H' _ q => hl i σ' H' q) hst hd⟩))
/-- for over range(n) -/
theorem b_forR {n : Int} (hm : X.mg "range" = none) (h : XE X e σ H (.int n)) (hn : 0 ≤ n ∧ n ≤ 100000) (hg : PG X tg g) (Pv : Nat → L2.St → Hp → Prop) (h0 : ∀ H1, Ex H H1 → Pv 0 σ H1)
    (hst : ∀ (i : Nat) σ' H', (i : Int) < n → Pv i σ' H' → g (.int (i : Nat)) σ' H' fun σ2 H2 => bT X body (inLoop X rest D (Pv (i + 1))) σ2 H2) (hd : ∀ σ' H', Pv n.toNat σ' H' → bT X rest D σ' H')
    (hp : PassesOwn (model X.prog X.w) X.A X.env X.xe := by exact PassesOwn.never) (hc : X.calm = true := by rfl) (hgl : Gl X "range" := by rfl) (he : starEach [e] X.env = [(false, eval e X.env)] := by rfl) (hs : ∀ x, foldedSetIterable (.Call (.Name "range" p1) [e] [] p2) X.env x = pure x := by intro _; rfl) :
    bT X (.For tg (.Call (.Name "range" p1) [e] [] p2) body [] pos :: rest) D σ H :=
  b_cons (ws (ps_for hp hc (pi_range1 hgl hm paT he) hg pbT hs) ((x_acons h x_anil he) H (Ex.refl H) _ fun H1 e1 => ⟨n, rfl, by omega, by omega, for_range (lo := 0) (n := n.toNat) Pv (h0 H1 e1) (fun i σ' H' hi p => by
    have e0 : (0 : Int) + (i : Int) = (i : Int) := Int.zero_add _
    rw [e0]
    exact hst i σ' H' (by omega) p) hd⟩))
/-- the ends within a loop's body while d is locked -/
abbrev inLock (X : Cx) (rest : List Stmt) (D : Ends) (d : Addr) (od : Obj) (u : HO) (N : L2.St → Hp → Prop) : Ends :=
  { nx := N, rt := fun v H' => H' d = some (.frz od u) ∧ D.rt v (upd H' d u), bk := fun σ H => H d = some (.frz od u) ∧ bT X rest D σ (upd H d u), ct := N }
/-- for over d.values() -/
theorem b_forV {kvs : List (Key × V)} (hd : H d = some (.dK kvs)) (h : ∀ od, XE X e σ (upd H d (.frz od (.dK kvs))) (.ref d)) (hg : PG X tg g) (Pv : Obj → Nat → L2.St → Hp → Prop) (h0 : ∀ od H1, Ex (upd H d (.frz od (.dK kvs))) H1 → Pv od 0 σ H1)
    (hl : ∀ od i σ' H', Pv od i σ' H' → H' d = some (.frz od (.dK kvs))) (hst : ∀ od i k x σ' H', kvs[i]? = some (k, x) → Pv od i σ' H' → g x σ' H' fun σ2 H2 => bT X body (inLock X rest D d od (.dK kvs) (Pv od (i + 1))) σ2 H2)
    (hdn : ∀ od σ' H', Pv od kvs.length σ' H' → bT X rest D σ' (upd H' d (.dK kvs)))
    (hp : PassesOwn (model X.prog X.w) X.A X.env X.xe := by exact PassesOwn.never) (hc : X.calm = true := by rfl) (hs : ∀ x, foldedSetIterable (.Call (.Attribute e "values" apos) [] [] p2) X.env x = pure x := by intro _; rfl)
    (hbase : attributeBase e "values" X.env (eval e X.env) = eval e X.env := by rfl) (hline : (apos.endLine == p2.line) = true := by rfl) :
    bT X (.For tg (.Call (.Attribute e "values" apos) [] [] p2) body [] pos :: rest) D σ H :=
  b_cons (ws (ps_lock (ps_for hp hc (pi_values peT hbase hline) hg pbT hs)) ⟨d, .dK kvs, hd, trivial, fun od => h od _ (Ex.refl _) _ fun H1 e1 => ⟨d, od, kvs, rfl, e1 _ _ upd_same,
    for_it walk_values (Pv od) (h0 od H1 e1) (fun i σ' H' _ q => hl od i σ' H' q) (fun i x σ' H' H'' hi q y => by
      obtain ⟨rfl, k, hk⟩ := y
      exact hst od i k x σ' H'' hk q) fun σ' H' q => ⟨hl od _ σ' H' q, hdn od σ' H' q⟩⟩⟩)
/-- for over d (its keys) -/
theorem b_forK {kvs : List (Key × V)} (hd : H d = some (.dK kvs)) (h : ∀ od, XE X iter σ (upd H d (.frz od (.dK kvs))) (.ref d)) (hg : PG X tg g) (Pv : Obj → Nat → L2.St → Hp → Prop) (h0 : ∀ od H1, Ex (upd H d (.frz od (.dK kvs))) H1 → Pv od 0 σ H1)
    (hl : ∀ od i σ' H', Pv od i σ' H' → H' d = some (.frz od (.dK kvs))) (hst : ∀ od i k x σ' H', kvs[i]? = some (k, x) → Pv od i σ' H' → g (kV k) σ' H' fun σ2 H2 => bT X body (inLock X rest D d od (.dK kvs) (Pv od (i + 1))) σ2 H2)
    (hdn : ∀ od σ' H', Pv od kvs.length σ' H' → bT X rest D σ' (upd H' d (.dK kvs)))
    (hp : PassesOwn (model X.prog X.w) X.A X.env X.xe := by exact PassesOwn.never) (hc : X.calm = true := by rfl) (hs : ∀ x, foldedSetIterable iter X.env x = pure x := by intro _; rfl) : bT X (.For tg iter body [] pos :: rest) D σ H :=
  b_cons (ws (ps_lock (ps_for hp hc (pi_keys peT) hg pbT hs)) ⟨d, .dK kvs, hd, trivial, fun od => h od _ (Ex.refl _) _ fun H1 e1 => ⟨d, od, rfl, .inl ⟨kvs, e1 _ _ upd_same,
    for_it walk_keys (Pv od) (h0 od H1 e1) (fun i σ' H' _ q => hl od i σ' H' q) (fun i x σ' H' H'' hi q y => by
      obtain ⟨rfl, k, v, hk, rfl⟩ := y
      exact hst od i k v σ' H'' hk q) fun σ' H' q => ⟨hl od _ σ' H' q, hdn od σ' H' q⟩⟩⟩⟩)
/-- for j1, j2 in d.items() -/
theorem b_forI {kvs : List (Key × V)} {elts : List Expr} {kk : Nat} {tpos : Pos} (hd : H d = some (.dK kvs)) (h : ∀ od, XE X e σ (upd H d (.frz od (.dK kvs))) (.ref d)) (hg : PG X (.Tuple elts kk tpos) g) (Pv : Obj → Nat → L2.St → Hp → Prop) (h0 : ∀ od H1, Ex (upd H d (.frz od (.dK kvs))) H1 → Pv od 0 σ H1)
    (hl : ∀ od i σ' H', Pv od i σ' H' → H' d = some (.frz od (.dK kvs)))
    (hst : ∀ od i k x σ' H' (T : Addr), kvs[i]? = some (k, x) → Pv od i σ' H' → H' T = none → g (.ref T) σ' (upd H' T (.tup [kV k, x])) fun σ2 H2 => bT X body (inLock X rest D d od (.dK kvs) (Pv od (i + 1))) σ2 H2)
    (hdn : ∀ od σ' H', Pv od kvs.length σ' H' → bT X rest D σ' (upd H' d (.dK kvs)))
    (hp : PassesOwn (model X.prog X.w) X.A X.env X.xe := by exact PassesOwn.never) (hc : X.calm = true := by rfl) (hs : ∀ x, foldedSetIterable (.Call (.Attribute e "items" apos) [] [] p2) X.env x = pure x := by intro _; rfl)
    (hbase : attributeBase e "items" X.env (eval e X.env) = eval e X.env := by rfl) (hline : (apos.endLine == p2.line) = true := by rfl) :
    bT X (.For (.Tuple elts kk tpos) (.Call (.Attribute e "items" apos) [] [] p2) body [] pos :: rest) D σ H :=
  b_cons (ws (ps_lock (ps_for hp hc (pi_items peT hbase hline) hg pbT hs)) ⟨d, .dK kvs, hd, trivial, fun od => h od _ (Ex.refl _) _ fun H1 e1 => ⟨d, od, kvs, rfl, e1 _ _ upd_same,
    for_it walk_items (Pv od) (h0 od H1 e1) (fun i σ' H' _ q => hl od i σ' H' q) (fun i x σ' H' H'' hi q y => by
      obtain ⟨T, k, v, rfl, hT, rfl, h1, h2⟩ := y
      dsimp only at h1 h2
      cases hk : kvs[i]? with
      | none => rw [hk] at h1; cases h1
      | some kv =>
        obtain ⟨k', v'⟩ := kv
        rw [hk] at h1 h2
        cases h1
        cases h2
        exact hst od i k' v' σ' H' T hk q hT) fun σ' H' q => ⟨hl od _ σ' H' q, hdn od σ' H' q⟩⟩⟩)
/-- for j1, j2 in enumerate(list) -/
theorem b_forE {xs : List V} {elts : List Expr} {kk : Nat} {tpos : Pos} (hm : X.mg "enumerate" = none) (h : XE X e σ H (.ref a)) (hx : SqL X.K H a xs) (hg : PG X (.Tuple elts kk tpos) g) (Pv : Nat → L2.St → Hp → Prop) (h0 : ∀ H1, Ex H H1 → Pv 0 σ H1)
    (hl : ∀ i σ' H', Pv i σ' H' → SqL X.K H' a xs) (hst : ∀ (i : Nat) x σ' H' (T : Addr), xs[i]? = some x → Pv i σ' H' → H' T = none → g (.ref T) σ' (upd H' T (.tup [.int (i : Nat), x])) fun σ2 H2 => bT X body (inLoop X rest D (Pv (i + 1))) σ2 H2)
    (hdn : ∀ σ' H', Pv xs.length σ' H' → bT X rest D σ' H')
    (hp : PassesOwn (model X.prog X.w) X.A X.env X.xe := by exact PassesOwn.never) (hc : X.calm = true := by rfl) (hgl : Gl X "enumerate" := by rfl) (he : starEach [e] X.env = [(false, eval e X.env)] := by rfl) (hs : ∀ x, foldedSetIterable (.Call (.Name "enumerate" p1) [e] [] p2) X.env x = pure x := by intro _; rfl) :
    bT X (.For (.Tuple elts kk tpos) (.Call (.Name "enumerate" p1) [e] [] p2) body [] pos :: rest) D σ H :=
  b_cons (ws (ps_for hp hc (pi_enum hgl hm paT he) hg pbT hs) ((x_acons h x_anil he) H (Ex.refl H) _ fun H1 e1 => ⟨a, xs, rfl, ex_l e1 hx,
    for_it walk_enum Pv (h0 H1 e1) (fun i σ' H' _ q => hl i σ' H' q) (fun i x σ' H' H'' hi q y => by
      obtain ⟨T, k, v, rfl, hT, rfl, h1, h2⟩ := y
      cases h1
      exact hst i v σ' H' T h2 q hT) hdn⟩))
/-- while, by a word that falls -/
theorem b_while (W : Nat → L2.St → Hp → Prop) (m0 : Nat) (h0 : W m0 σ H)
    (hs : ∀ m σ' H', W m σ' H' → ∃ b, XT X c σ' H' b ∧ (b = true → ∀ H1, Ex H' H1 → bT X body (inLoop X rest D fun σ2 H2 => ∃ m', m' < m ∧ W m' σ2 H2) σ' H1) ∧ (b = false → ∀ H1, Ex H' H1 → bT X rest D σ' H1))
    (hp : PassesOwn (model X.prog X.w) X.A X.env X.xe := by exact PassesOwn.never) : bT X (.While c body [] pos :: rest) D σ H :=
  b_cons (ws (ps_while hp ptT pbT) ⟨W, ⟨m0, h0⟩, fun m σ' H' w => by
    obtain ⟨b, hb, h1, h2⟩ := hs m σ' H' w
    refine hb H' (Ex.refl H') _ fun H1 e1 => ?_
    cases b with
    | true =>
      rw [if_pos rfl]
      exact ⟨_, fun _ _ n => n, h1 rfl H1 e1⟩
    | false =>
      rw [if_neg Bool.false_ne_true]
      exact h2 rfl H1 e1⟩)
/-! ### statements that change a thing -/
variable {v x y : V} {xs ys : List V} {m f : Str} {i : Nat} {C dx : Addr} {fs : List (Str × V)}
theorem b_exprQ (h : eT X e σ H fun _ H1 => bT X rest D σ H1) (hs : swapsWith e none pos.line X.env = pure false := by rfl) : bT X (.Expr e pos :: rest) D σ H := b_cons (ws (ps_expr peT hs) h)
end
structure BMok (X : Cx) (o : Expr) (name : Str) (apos : Pos) (e : Expr) (es : List Expr) (cpos : Pos) : Prop where
  hbase : attributeBase o name X.env (eval o X.env) = eval o X.env
  hfew : ((backTo cpos (starEach (e :: es) X.env)).all (fun x => !x.1) && (backToKw cpos (keywordEach [] X.env)).all (fun x => x.1.isSome)
      && decide ((e :: es).length + ([] : List Keyword).length + (if ([] : List Keyword).isEmpty then 0 else 1) < 30)) = true
  hline : (apos.endLine == cpos.line) = true
  hs : starEach (e :: es) X.env = (false, eval e X.env) :: starEach es X.env
  hplain : (backTo cpos (starEach es X.env)).any (·.1) = false
theorem BMok.pe {X : Cx} {o e : Expr} {es : List Expr} {name : Str} {apos cpos : Pos} {T id : String} {r : V → List V → Hp → VK → Prop} {to : TE} {t : TA} (b : BMok X o name apos e es cpos) (pa : PlainAttrs T) (slot : Slot T name id) (hty : typeOf (.builtin id) = pure (.type "method_descriptor")) (hm : MtR X id r) (ho : PE X o to) (ha : PA X (e :: es) t) :
    PE X (.Call (.Attribute o name apos) (e :: es) [] cpos) (tBM X.K T r to t) := pe_bm pa slot hty hm ho ha b.hbase b.hfew b.hline b.hs b.hplain
section
variable {X : Cx} {tg iter e c : Expr} {body rest els : List Stmt} {σ : L2.St} {H : Hp} {D : Ends} {a d : Addr} {pos p1 p2 apos : Pos} {g : TG}
variable {v x y : V} {xs ys : List V} {m f : Str} {i : Nat} {C dx : Addr} {fs : List (Str × V)}
/-- l.append(e) -/
theorem b_app (hl : H a = some (.lst xs)) (ho : XE X e σ H (.ref a)) (h : XE X c σ H v) (hz : xs.length < 100000) (k : ∀ H1, Ex H H1 → bT X rest D σ (upd H1 a (.lst (xs ++ [v]))))
    (hs : swapsWith (.Call (.Attribute e "append" apos) [c] [] p2) none pos.line X.env = pure false := by rfl) (b : BMok X e "append" apos c [] p2 := by exact ⟨rfl, rfl, rfl, rfl, rfl⟩) :
    bT X (.Expr (.Call (.Attribute e "append" apos) [c] [] p2) pos :: rest) D σ H :=
  b_exprQ (we (b.pe PySem.F.plainAttrs_list PySem.F.slot_list_append PySem.F.type_list_append mt_append peT (pa_cons peT pa_nil b.hs)) (ho H (Ex.refl H) _ fun H1 e1 => ⟨.inl ⟨rfl, xs, sq_of (e1 _ _ hl)⟩, h H1 e1 _ fun H2 e2 => ⟨a, xs, v, rfl, rfl, e2 _ _ (e1 _ _ hl), sz_lt hz, k H2 (e1.trans e2)⟩⟩)) hs
theorem b_appP {S : V → Hp → Prop} (hl : H a = some (.lst xs)) (ho : XE X e σ H (.ref a)) (h : XP X c σ H S) (hz : xs.length < 100000) (k : ∀ v H1, Ex H H1 → S v H1 → bT X rest D σ (upd H1 a (.lst (xs ++ [v]))))
    (hs : swapsWith (.Call (.Attribute e "append" apos) [c] [] p2) none pos.line X.env = pure false := by rfl) (b : BMok X e "append" apos c [] p2 := by exact ⟨rfl, rfl, rfl, rfl, rfl⟩) :
    bT X (.Expr (.Call (.Attribute e "append" apos) [c] [] p2) pos :: rest) D σ H :=
  b_exprQ (we (b.pe PySem.F.plainAttrs_list PySem.F.slot_list_append PySem.F.type_list_append mt_append peT (pa_cons peT pa_nil b.hs)) (ho H (Ex.refl H) _ fun H1 e1 => ⟨.inl ⟨rfl, xs, sq_of (e1 _ _ hl)⟩, h H1 e1 _ fun v H2 e2 s2 => ⟨a, xs, v, rfl, rfl, e2 _ _ (e1 _ _ hl), sz_lt hz, k v H2 (e1.trans e2) s2⟩⟩)) hs
/-- l.extend(e), e a new list -/
theorem b_extN {S : Addr → Hp → Prop} (hl : H a = some (.lst xs)) (ho : XE X e σ H (.ref a)) (h : XN X c σ H S) (hS : ∀ p H1, Ex H H1 → S p H1 → ∃ ys, H1 p = some (.lst ys) ∧ xs.length + ys.length ≤ 100000)
    (k : ∀ p ys H1, Ex H H1 → H p = none → S p H1 → H1 p = some (.lst ys) → bT X rest D σ (upd H1 a (.lst (xs ++ ys))))
    (hs : swapsWith (.Call (.Attribute e "extend" apos) [c] [] p2) none pos.line X.env = pure false := by rfl) (b : BMok X e "extend" apos c [] p2 := by exact ⟨rfl, rfl, rfl, rfl, rfl⟩) :
    bT X (.Expr (.Call (.Attribute e "extend" apos) [c] [] p2) pos :: rest) D σ H :=
  b_exprQ (we (b.pe PySem.F.plainAttrs_list PySem.F.slot_list_extend PySem.F.type_list_extend mt_extend peT (pa_cons peT pa_nil b.hs)) (ho H (Ex.refl H) _ fun H1 e1 => ⟨.inl ⟨rfl, xs, sq_of (e1 _ _ hl)⟩, h H1 e1 _ fun p H2 hp e2 s2 => by
    obtain ⟨ys, hy, hz⟩ := hS p H2 (e1.trans e2) s2
    exact ⟨a, p, xs, ys, rfl, rfl, e2 _ _ (e1 _ _ hl), hy, sz_of hz, k p ys H2 (e1.trans e2) (fresh_back e1 hp) s2 hy⟩⟩)) hs
/-- d[y] = v -/
theorem b_dput {j : Nat} {H4 : Hp → Hp} {e3 : Expr} {S : V → Hp → Prop} (hr : Room j X.A) (hv : XP X e3 σ H S) (hd : XE X e σ H (.ref a)) (hk : XE X c σ H y) (hp : ∀ v H1, Ex H H1 → S v H1 → DPut H1 a y v (H4 H1) ∧ bT X rest D σ (H4 H1)) (hm : ∀ v H1 H2, Ex H1 H2 → S v H1 → S v H2)
    (hs : swapsWith e3 (some (.Subscript e c p2)) pos.line X.env = pure false := by rfl) : bT X (.Assign [.Subscript e c p2] e3 pos :: rest) D σ H :=
  b_cons (ws (ps_dput (hu_of hr) peT peT peT hs) (hv H (Ex.refl H) _ fun v H1 e1 s1 => hd H1 e1 _ fun H2 e2 => hk H2 (e1.trans e2) _ fun H3 e3 => ⟨a, H4 H3, rfl, (hp v H3 ((e1.trans e2).trans e3) (hm v H1 H3 (e2.trans e3) s1)).1, (hp v H3 ((e1.trans e2).trans e3) (hm v H1 H3 (e2.trans e3) s1)).2⟩))
/-- del d[y] -/
theorem b_ddel {kvs : List (Key × V)} {k : Key} (hd : XE X e σ H (.ref a)) (hk : XE X c σ H (kV k)) (ha : H a = some (.dK kvs)) (hi : (valV kvs k).isSome = true) (q : ∀ H1, Ex H H1 → bT X rest D σ (upd H1 a (.dK (dropK kvs k)))) : bT X (.Delete [.Subscript e c p2] pos :: rest) D σ H :=
  b_cons (ws (ps_ddel peT peT) (hd H (Ex.refl H) _ fun H1 e1 => hk H1 e1 _ fun H2 e2 => ⟨a, kvs, k, rfl, e2 _ _ (e1 _ _ ha), rfl, hi, q H2 (e1.trans e2)⟩))
/-- o.f = e -/
theorem b_fld {S : V → Hp → Prop} (hv : XP X c σ H S) (ho : XE X e σ H (.ref a)) (hi : H a = some (.ins C dx fs)) (hc : Cls X.K C) (hn : NoAttr X.K C f) (hl : fs.length < 1000) (k : ∀ v H1, Ex H H1 → S v H1 → bT X rest D σ (upd H1 a (.ins C dx (putF f v fs)))) (hm : ∀ v H1 H2, Ex H1 H2 → S v H1 → S v H2)
    (hs : swapsWith c (some (.Attribute e f p2)) pos.line X.env = pure false := by rfl) : bT X (.Assign [.Attribute e f p2] c pos :: rest) D σ H :=
  b_cons (ws (ps_fld peT peT hs) (hv H (Ex.refl H) _ fun v H1 e1 s1 => ho H1 e1 _ fun H2 e2 => ⟨a, C, dx, fs, rfl, e2 _ _ (e1 _ _ hi), hc, hn, hl, k v H2 (e1.trans e2) (hm v H1 H2 e2 s1)⟩))
theorem b_fldE (hv : XE X c σ H v) (ho : XE X e σ H (.ref a)) (hi : H a = some (.ins C dx fs)) (hc : Cls X.K C) (hn : NoAttr X.K C f) (hl : fs.length < 1000) (k : ∀ H1, Ex H H1 → bT X rest D σ (upd H1 a (.ins C dx (putF f v fs))))
    (hs : swapsWith c (some (.Attribute e f p2)) pos.line X.env = pure false := by rfl) : bT X (.Assign [.Attribute e f p2] c pos :: rest) D σ H := b_fld (xp_e hv) ho hi hc hn hl (fun w H1 e1 q => by rw [q]; exact k H1 e1) (fun _ _ _ _ q => q) hs
/-- x = e, at a heap of one's own -/
theorem b_set (i : Nat) {x : Str} (h : XE X e σ H v) (q : ∀ H1, Ex H H1 → bT X rest D (σ.set i (some v)) H1) (hN : X.N.Nodup := by assumption) (hi : X.N[i]? = some x := by rfl) (hx : Loc X.env.scope x := by first | exact Or.inl rfl | exact Or.inr rfl)
    (hs : swapsWith e (some (.Name x p1)) pos.line X.env = pure false := by rfl) (hf : X.fn x = true ∨ X.env.scope.names.lookup x = some .local := by first | exact .inl rfl | exact .inr rfl) : bT X (.Assign [.Name x p1] e pos :: rest) D σ H := (s_set i h q hN hi hx hs hf).run
theorem b_setN (i : Nat) {x : Str} {R : Addr → Hp → Prop} (h : XN X e σ H R) (q : ∀ p H1, H p = none → Ex H H1 → R p H1 → bT X rest D (σ.set i (some (.ref p))) H1) (hN : X.N.Nodup := by assumption) (hi : X.N[i]? = some x := by rfl) (hx : Loc X.env.scope x := by first | exact Or.inl rfl | exact Or.inr rfl)
    (hs : swapsWith e (some (.Name x p1)) pos.line X.env = pure false := by rfl) (hf : X.fn x = true ∨ X.env.scope.names.lookup x = some .local := by first | exact .inl rfl | exact .inr rfl) : bT X (.Assign [.Name x p1] e pos :: rest) D σ H :=
  b_cons (ws (L2.ps_set hN hi hx peT hs hf) (h H (Ex.refl H) _ fun p H2 hp e2 r => q p H2 hp e2 r))
theorem b_setP (i : Nat) {x : Str} {R : V → Hp → Prop} (h : XP X e σ H R) (q : ∀ v H1, Ex H H1 → R v H1 → bT X rest D (σ.set i (some v)) H1) (hN : X.N.Nodup := by assumption) (hi : X.N[i]? = some x := by rfl) (hx : Loc X.env.scope x := by first | exact Or.inl rfl | exact Or.inr rfl)
    (hs : swapsWith e (some (.Name x p1)) pos.line X.env = pure false := by rfl) (hf : X.fn x = true ∨ X.env.scope.names.lookup x = some .local := by first | exact .inl rfl | exact .inr rfl) : bT X (.Assign [.Name x p1] e pos :: rest) D σ H :=
  b_cons (ws (L2.ps_set hN hi hx peT hs hf) (h H (Ex.refl H) _ fun v H2 e2 r => q v H2 e2 r))
theorem b_if {b : Bool} {sts2 : List Stmt} (h : XT X c σ H b) (h1 : b = true → ∀ H1, Ex H H1 → bT X sts2 { D with nx := fun σ H => bT X rest D σ H } σ H1) (h2 : b = false → ∀ H1, Ex H H1 → bT X els { D with nx := fun σ H => bT X rest D σ H } σ H1) : bT X (.If c sts2 els pos :: rest) D σ H := (s_if h h1 h2).run
theorem b_expr (h : XE X e σ H v) (q : ∀ H1, Ex H H1 → bT X rest D σ H1) (hs : swapsWith e none pos.line X.env = pure false := by rfl) : bT X (.Expr e pos :: rest) D σ H := (s_expr h q hs).run
theorem b_retP {R : V → Hp → Prop} (h : XP X e σ H R) (q : ∀ v H1, Ex H H1 → R v H1 → D.rt v H1) : bT X (.Return (some e) pos :: rest) D σ H := (s_retP h q).run
theorem b_retN' {R : Addr → Hp → Prop} (h : XN X e σ H R) (q : ∀ p H1, H p = none → Ex H H1 → R p H1 → D.rt (.ref p) H1) : bT X (.Return (some e) pos :: rest) D σ H := b_cons (ws (ps_ret peT) (h H (Ex.refl H) _ fun p H1 hp e1 r => q p H1 hp e1 r))
/-- {} -/
theorem xn_dK : XN X (.Dict [] [] pos) σ H (fun p H2 => H2 p = some (.dK [])) := xn pe_dnewK fun H1 e Q q => fun p hp => q p _ hp (Ex.new hp) upd_same
theorem xn_dT : XN X (.Dict [] [] pos) σ H (fun p H2 => H2 p = some (.dT [])) := xn pe_dnewT fun H1 e Q q => fun p hp => q p _ hp (Ex.new hp) upd_same
theorem xp_n {S : Addr → Hp → Prop} (h : XN X e σ H S) : XP X e σ H (fun v H2 => ∃ p, v = .ref p ∧ S p H2) := fun H1 e1 Q q => h H1 e1 Q fun p H2 _ e2 s2 => q _ H2 e2 ⟨p, rfl, s2⟩
end
/-! ### starred things in displays -/
section
variable {X : Cx} {e : Expr} {es : List Expr} {te : TE} {t : TA} {p pos : Pos} {σ : L2.St} {H : Hp} {pins : List (Addr × Obj)} {s : Shared} {a : Addr} {kvs : List (Key × V)} {xs vs : List V}
theorem star_dict {E : Value → Shared → Prop} {Q : List Value → Shared → Prop} (hcalm : X.calm = true) (I : L2.Inv X pins σ H s) (hd : Rd H a (.dK kvs)) (hQ : ∀ us s', L2.Inv X pins σ H s' → Vals (kvs.map fun kv => kV kv.1) us → Q us s') : PySem.W.StarOf (model X.prog X.w) X.A E (.ref a) Q s := by
  obtain ⟨z, lo, vs, rel, dd⟩ := dk_rd I.hok hd
  obtain ⟨ep, hat⟩ := dd.dictAt
  have ek : (kvs.map fun kv => kV kv.1) = vs.map fun p => kV p.1 := by
    have e := congrArg (List.map kV) rel.keys
    rw [List.map_map, List.map_map] at e
    exact e
  unfold PySem.W.StarOf notIterableAtAll
  refine wpAny_bind (wpAny_specialOf dd.typeIs PySem.F.slot_dict_iter.lookup (wpAny_pure ⟨rfl, ?_⟩))
  refine PySem.W.kdu_collect (A := X.A) (PySem.W.kdl_dict (knd := mixKind X.prog X.w) (kvs := vs) (ep := ep) lo) (I.ok.hd hcalm) hat (by rw [← rel.length]; exact z) fun h' tk acc hk hacc => ?_
  have hv : Vals (vs.map fun p => kV p.1) acc.toList := keys_at (by rw [Array.length_toList]; exact hacc.1) fun j v e => hacc.2 j v (by rw [← Array.getElem?_toList]; exact e)
  exact hQ _ _ (I.kept hk) (by rw [ek]; exact hv)
def tStarD (te : TE) (t : TA) : TA := fun σ H Q => te σ H fun x H1 => ∃ p kvs, x = V.ref p ∧ Rd H1 p (.dK kvs) ∧ t σ H1 fun ys H2 => Q ((kvs.map fun kv => kV kv.1) ++ ys) H2
theorem pa_starD (hc : X.calm = true) (he : PE X e te) (hr : PA X es t) (hs : starEach (.Starred e p :: es) X.env = (true, eval e X.env) :: starEach es X.env := by rfl) : PA X (.Starred e p :: es) (tStarD te t) := by
  refine ⟨fun pos pins s σ H Q I h => ?_⟩
  refine PySem.W.items_star (thn (he.run pins s σ H _ I h) fun v s1 ⟨y, H1, I1, ry, a, kvs, ey, hx, q⟩ => ?_) hs
  subst ey
  obtain rfl : v = Value.ref a := ry
  refine star_dict hc I1 hx fun us s2 I2 rv => ?_
  exact thn (hr.run pos pins s2 σ H1 _ I2 q) fun ws s3 ⟨vs, H3, I3, r3, q3⟩ => ⟨(kvs.map fun kv => kV kv.1) ++ vs, H3, I3, rv.append r3, q3⟩
theorem x_starD (h : XE X e σ H (.ref a)) (hd : Rd H a (.dK kvs)) (h2 : XA X es σ H vs) (hc : X.calm = true := by rfl) (hs : starEach (.Starred e p :: es) X.env = (true, eval e X.env) :: starEach es X.env := by rfl) : XA X (.Starred e p :: es) σ H ((kvs.map fun kv => kV kv.1) ++ vs) :=
  xa (pa_starD hc peT paT hs) fun H1 e1 Q q => h H1 e1 _ fun H2 e2 => ⟨a, kvs, rfl, ex_rd (e1.trans e2) hd, h2 H2 (e1.trans e2) _ fun H3 e3 => q H3 (e2.trans e3)⟩
theorem x_starS (h : XE X e σ H (.ref a)) (hx : SqT X.K H a xs ∨ SqL X.K H a xs) (h2 : XA X es σ H vs) (hs : starEach (.Starred e p :: es) X.env = (true, eval e X.env) :: starEach es X.env := by rfl) : XA X (.Starred e p :: es) σ H (xs ++ vs) :=
  xa (StX.pa_star peT paT hs) fun H1 e1 Q q => h H1 e1 _ fun H2 e2 => ⟨a, xs, rfl, hx.imp (ex_t (e1.trans e2)) (ex_l (e1.trans e2)), h2 H2 (e1.trans e2) _ fun H3 e3 => q H3 (e2.trans e3)⟩
theorem x_starN (h : XL X e σ H xs) (h2 : XA X es σ H vs) (hs : starEach (.Starred e p :: es) X.env = (true, eval e X.env) :: starEach es X.env := by rfl) : XA X (.Starred e p :: es) σ H (xs ++ vs) :=
  xa (StX.pa_star peT paT hs) fun H1 e1 Q q => h H1 e1 _ fun a H2 _ e2 hx => ⟨a, xs, rfl, .inr (sq_of hx), h2 H2 (e1.trans e2) _ fun H3 e3 => q H3 (e2.trans e3)⟩
/-- a starred list of which something is told -/
theorem xap_starP {R : List V → Hp → Prop} {S : V → Hp → Prop} (h : XP X e σ H S) (hS : ∀ v H1, Ex H H1 → S v H1 → ∃ p xs, v = .ref p ∧ (SqT X.K H1 p xs ∨ SqL X.K H1 p xs)) (h2 : XAP X es σ H R) (hs : starEach (.Starred e p :: es) X.env = (true, eval e X.env) :: starEach es X.env := by rfl) (st : ∀ v H1 H2, Ex H1 H2 → S v H1 → S v H2) :
    XAP X (.Starred e p :: es) σ H (fun vs H2 => ∃ a xs ys, vs = xs ++ ys ∧ S (.ref a) H2 ∧ (SqT X.K H2 a xs ∨ SqL X.K H2 a xs) ∧ R ys H2) := fun H1 e1 Q q => wa (StX.pa_star peT paT hs) (h H1 e1 _ fun v H2 e2 s2 => by
    obtain ⟨a, xs, rfl, hx⟩ := hS v H2 (e1.trans e2) s2
    exact ⟨a, xs, rfl, hx, h2 H2 (e1.trans e2) _ fun ys H3 e3 r => q _ H3 (e2.trans e3) ⟨a, xs, ys, rfl, st _ _ _ e3 s2, hx.imp (ex_t e3) (ex_l e3), r⟩⟩)
end
section
variable {X : Cx} {e a : Expr} {es rest : List Expr} {sts : List Stmt} {D : Ends} {pos p1 : Pos} {σ : L2.St} {H : Hp} {z : V} {S : V → Hp → Prop} {sp : Sp} {k j : Nat}
theorem xe_of_p (h : XP X e σ H (fun v _ => v = z)) : XE X e σ H z := fun H1 e1 Q q => h H1 e1 Q fun v H2 e2 r => by rw [r]; exact q H2 e2
theorem b_exprP (h : XP X e σ H S) (q : ∀ v H1, Ex H H1 → S v H1 → bT X sts D σ H1) (hs : swapsWith e none pos.line X.env = pure false := by rfl) : bT X (.Expr e pos :: sts) D σ H := b_exprQ (h H (Ex.refl H) _ fun v H1 e1 s1 => q v H1 e1 s1) hs
/-- a call of a def whose last argument is new: the others are exact -/
theorem x_callN {x : Str} {R : Addr → Hp → Prop} {a2 : Expr} (cl : C8.Cal X.prog X.w X.K X.mg X.base k x sp []) (hr : Room j X.A) (ha : XE X a σ H z) (h2 : XN X a2 σ H R) {y : V} (hs : ∀ p H1, Ex H H1 → R p H1 → PV sp [z, .ref p] H1 y) (hk : k ≤ j := by decide) (hg : Gl X x := by rfl) (hdb : (x == ("__debug__" : Str)) = false := by decide)
    (he : starEach (a :: [a2]) X.env = (false, eval a X.env) :: starEach [a2] X.env := by rfl) (he2 : starEach [a2] X.env = (false, eval a2 X.env) :: starEach [] X.env := by rfl) (hpl : (backTo pos (starEach [a2] X.env)).any (·.1) = false := by rfl) : XE X (.Call (.Name x p1) [a, a2] [] pos) σ H y :=
  xe (C8.pe_c cl hr hk hg paT hdb he hpl) fun H1 e Q q => wa (pa_cons peT (pa_cons peT pa_nil he2) he) (ha H1 e _ fun H2 e2 => h2 H2 (e.trans e2) _ fun p H3 hp e3 r => by
    show sp ([z, V.ref p] ++ []) H3 Q C8.E0
    rw [List.append_nil]
    exact hs p H3 ((e.trans e2).trans e3) r H3 (Ex.refl H3) Q fun H4 e4 => q H4 ((e2.trans e3).trans e4))
end
section
variable {X : Cx} {a c e : Expr} {pos p1 p2 : Pos} {σ : L2.St} {H : Hp} {x : V} {xs : List V} {ad : Addr} {S : Addr → Hp → Prop} {s : Str} {ss : List Str}
/-- x in y, y a new list -/
theorem t_inNL (ha : XE X a σ H x) (hb : XL X c σ H xs) (hx : flatV x = true) (hf : xs.all flatV = true) (hm : behindInMarks .In c = false := by rfl) : XT X (.Compare a [.In] [c] pos) σ H (inV x xs) := xt (pt_cmpR op_in_seq peT peT hm) (et_test (ev_opL ha hb fun p H1 h _ => rv_isL (sq_of h) hx hf))
theorem t_inNS (ha : XE X a σ H (.str s)) (hb : XL X c σ H (ss.map V.str)) (hm : behindInMarks .In c = false := by rfl) : XT X (.Compare a [.In] [c] pos) σ H (decide (s ∈ ss)) := t_is (t_inNL ha hb rfl (flat_strs ss) hm) (inV_strs s ss)
theorem x_niS (ha : XE X a σ H (.str s)) (hb : XE X c σ H (.ref ad)) (h : SqL X.K H ad (ss.map V.str)) (hm : behindInMarks .NotIn c = false := by rfl) : XE X (.Compare a [.NotIn] [c] pos) σ H (.bl (!decide (s ∈ ss))) := x_is (x_niL ha hb h rfl (flat_strs ss) hm) (by rw [inV_strs])
theorem t_niS (ha : XE X a σ H (.str s)) (hb : XE X c σ H (.ref ad)) (h : SqL X.K H ad (ss.map V.str)) (hm : behindInMarks .NotIn c = false := by rfl) : XT X (.Compare a [.NotIn] [c] pos) σ H (!decide (s ∈ ss)) := t_is (t_cmp op_notIn_seq ha hb (rv_niL h rfl (flat_strs ss)) hm) (by rw [inV_strs])
theorem x_inS (ha : XE X a σ H (.str s)) (hb : XE X c σ H (.ref ad)) (h : SqL X.K H ad (ss.map V.str)) (hm : behindInMarks .In c = false := by rfl) : XE X (.Compare a [.In] [c] pos) σ H (.bl (decide (s ∈ ss))) := x_is (x_inL ha hb h rfl (flat_strs ss) hm) (by rw [inV_strs])
theorem t_inS (ha : XE X a σ H (.str s)) (hb : XE X c σ H (.ref ad)) (h : SqL X.K H ad (ss.map V.str)) (hm : behindInMarks .In c = false := by rfl) : XT X (.Compare a [.In] [c] pos) σ H (decide (s ∈ ss)) := t_is (t_inL ha hb h rfl (flat_strs ss) hm) (by rw [inV_strs])
/-- list(e): a new list of the same -/
theorem xl_listOf (hm : X.mg "list" = none) (ha : XE X e σ H (.ref ad)) (h : SqL X.K H ad xs ∨ SqT X.K H ad xs) (hg : Gl X "list" := by rfl) (he : starEach [e] X.env = (false, eval e X.env) :: starEach [] X.env := by rfl) (hpl : (backTo pos (starEach [] X.env)).any (·.1) = false := by rfl) : XL X (.Call (.Name "list" p1) [e] [] pos) σ H xs :=
  xn_ty call_list_of hm boot_list (x_acons ha x_anil he) (fun H1 e1 Q q => ⟨ad, xs, rfl, h.imp (ex_l e1) (ex_t e1), fun l hl => q l _ hl (Ex.new hl) upd_same⟩) hg (by decide) (by decide) he hpl
end
end Lx
/-! LsG -/
set_option Elab.async false
set_option linter.all false
set_option maxRecDepth 100000
namespace Lx
open PySem PySem.Spec PyProof.Rows L2 Evl
/-! ### calls that give something new; something made -/
def PN (sp : Sp) (vs : List V) (H : Hp) (R : Addr → Hp → Prop) : Prop := ∀ H1, Ex H H1 → ∀ Q : VK, (∀ p H2, H1 p = none → Ex H1 H2 → R p H2 → Q (.ref p) H2) → sp vs H1 Q C8.E0
def PM (C : Addr) (sp : Sp) (vs : List V) (H : Hp) (R : Addr → Hp → Prop) : Prop := ∀ H1, Ex H H1 → ∀ x dx, H1 x = none → H1 dx = none → dx ≠ x → ∀ Q : VK, (∀ H2, Ex H1 H2 → R x H2 → Q .non H2) → sp (.ref x :: vs) (upd (upd H1 dx (.own x)) x (.ins C dx [])) Q C8.E0
theorem PN.pp {sp : Sp} {vs : List V} {H : Hp} {R : Addr → Hp → Prop} (h : PN sp vs H R) : PP sp vs H (fun v H2 => ∃ p, v = .ref p ∧ R p H2) := fun H1 e Q q => h H1 e Q fun p H2 _ e2 r => q _ H2 e2 ⟨p, rfl, r⟩
section
variable {X : Cx} {a c e : Expr} {es rest : List Expr} {σ : L2.St} {H : Hp} {vs : List V} {sp : Sp} {k j : Nat} {pos p1 p2 apos : Pos} {R : Addr → Hp → Prop} {C dx ad : Addr} {m : Str} {fs : List (Str × V)}
theorem xn_call {x : Str} (cl : C8.Cal X.prog X.w X.K X.mg X.base k x sp []) (hr : Room j X.A) (ha : XA X (a :: es) σ H vs) (hs : PN sp vs H R) (hk : k ≤ j := by decide) (hg : Gl X x := by rfl) (hdb : (x == ("__debug__" : Str)) = false := by decide)
    (he : starEach (a :: es) X.env = (false, eval a X.env) :: starEach es X.env := by rfl) (hpl : (backTo pos (starEach es X.env)).any (·.1) = false := by rfl) : XN X (.Call (.Name x p1) (a :: es) [] pos) σ H R :=
  xn (C8.pe_c cl hr hk hg paT hdb he hpl) fun H1 e Q q => ha H1 e _ fun H2 e2 => by
    rw [List.append_nil]
    exact hs H2 (e.trans e2) Q fun p H3 hp e3 r => q p H3 (fresh_back e2 hp) (e2.trans e3) r
theorem xn_mk {x : Str} (cl : C8.Mak X.prog X.w X.K X.mg X.base k x C sp []) (hr : Room j X.A) (ha : XA X (a :: es) σ H vs) (hs : PM C sp vs H R) (hk : k + 1 ≤ j := by decide) (hg : Gl X x := by rfl) (hdb : (x == ("__debug__" : Str)) = false := by decide)
    (he : starEach (a :: es) X.env = (false, eval a X.env) :: starEach es X.env := by rfl) (hpl : (backTo pos (starEach es X.env)).any (·.1) = false := by rfl) : XN X (.Call (.Name x p1) (a :: es) [] pos) σ H R :=
  xn (C8.pe_mk cl hr hk hg paT hdb he hpl) fun H1 e Q q => ha H1 e _ fun H2 e2 => fun x dx hx hdx n => by
    rw [List.append_nil]
    exact hs H2 (e.trans e2) x dx hx hdx n _ fun H3 e3 r => ⟨rfl, q x H3 (fresh_back e2 hx) (e2.trans e3) r⟩
theorem xn_meth {pl : Sem Bool} (me : C8.Met X.prog X.w X.K X.mg X.base k C m sp []) (hr : Room j X.A) (ho : XE X a σ H (.ref ad)) (hi : H ad = some (.ins C dx fs)) (hl : fs.lookup m = none) (ha : XA X (c :: es) σ H vs) (hs : PN sp (.ref ad :: vs) H R) (hk : k ≤ j := by decide)
    (hst : starEach (c :: es) X.env = (false, eval c X.env) :: starEach es X.env := by rfl) (hpl : (backTo pos (starEach es X.env)).any (·.1) = false := by rfl)
    (ht : eval (.Call (.Attribute a m p1) (c :: es) [] pos) X.env = (do
      let ov ← eval a X.env
      standAt p1.atName
      let (f, first) ← holding [ov] (getMethod ov m pl)
      callWith pos f first (backTo pos (starEach (c :: es) X.env)) (backToKw pos (keywordEach [] X.env))) := by rfl) : XN X (.Call (.Attribute a m p1) (c :: es) [] pos) σ H R :=
  xn (C8.pe_mt (pl := pl) me hr hk peT paT hst hpl ht) fun H1 e Q q => ho H1 e _ fun H2 e2 => ⟨ad, dx, fs, rfl, e2 _ _ (e _ _ hi), hl, ha H2 (e.trans e2) _ fun H3 e3 => by
    rw [List.append_nil]
    exact hs H3 ((e.trans e2).trans e3) Q fun p H4 hp e4 r => q p H4 (fresh_back (e2.trans e3) hp) ((e2.trans e3).trans e4) r⟩
theorem xn_meth0 {pl : Sem Bool} (me : C8.Met X.prog X.w X.K X.mg X.base k C m sp []) (hr : Room j X.A) (ho : XE X a σ H (.ref ad)) (hi : H ad = some (.ins C dx fs)) (hl : fs.lookup m = none) (hs : PN sp [.ref ad] H R) (hk : k ≤ j := by decide)
    (ht : eval (.Call (.Attribute a m p1) [] [] pos) X.env = (do
      let ov ← eval a X.env
      standAt p1.atName
      let (f, first) ← holding [ov] (getMethod ov m pl)
      callWith pos f first (backTo pos (starEach [] X.env)) (backToKw pos (keywordEach [] X.env))) := by rfl) : XN X (.Call (.Attribute a m p1) [] [] pos) σ H R :=
  xn (C8.pe_mt0 (pl := pl) me hr hk peT ht) fun H1 e Q q => ho H1 e _ fun H2 e2 => ⟨ad, dx, fs, rfl, e2 _ _ (e _ _ hi), hl, hs H2 (e.trans e2) Q fun p H4 hp e4 r => q p H4 (fresh_back e2 hp) (e2.trans e4) r⟩
variable {body stm : List Stmt} {D : Ends} {f : Str}
/-- o.f = e, e new -/
theorem b_fldN (hv : XN X c σ H R) (ho : XE X e σ H (.ref ad)) (hi : H ad = some (.ins C dx fs)) (hc : Cls X.K C) (hn : NoAttr X.K C f) (hl : fs.length < 1000) (k : ∀ p H1, H p = none → Ex H H1 → R p H1 → bT X stm D σ (upd H1 ad (.ins C dx (putF f (.ref p) fs)))) (hm : ∀ p H1 H2, Ex H1 H2 → R p H1 → R p H2)
    (hs : swapsWith c (some (.Attribute e f p2)) pos.line X.env = pure false := by rfl) : bT X (.Assign [.Attribute e f p2] c pos :: stm) D σ H :=
  b_cons (ws (ps_fld peT peT hs) (hv H (Ex.refl H) _ fun p H1 hp e1 s1 => ho H1 e1 _ fun H2 e2 => ⟨ad, C, dx, fs, rfl, e2 _ _ (e1 _ _ hi), hc, hn, hl, k p H2 hp (e1.trans e2) (hm p H1 H2 e2 s1)⟩))
/-! ### {k: v for y in l}: keys texts that are distinct -/
variable {J : It} {n : Nat} {G : Hp → Prop} {Y : Nat → Hp → V → Hp → Prop}
theorem dc_it (w : Walk J n G Y) {g : TG} {tt : TT} {tk tv : TE} {vs : List Nat} {σ : L2.St} {H1 : Hp} {D : Addr} {Qd : Hp → Prop} (Pv : Nat → Hp → Prop) (h0 : Pv 0 (upd H1 D (.dK []))) (hG : ∀ i H, i ≤ n → Pv i H → G H)
    (hs : ∀ i x H H', i < n → Pv i H → Y i H x H' → g x (wipe σ vs) H' fun σ2 H2 => wipe σ2 vs = wipe σ vs ∧ tt σ2 H2 fun b H3 =>
      if b = true then tk σ2 H3 fun y H4 => tv σ2 H4 fun z H5 => ∃ kvs k, y = kV k ∧ H5 D = some (.dK kvs) ∧ kvs.length < sizeLine ∧ Pv (i + 1) (upd H5 D (.dK (putK kvs k z))) else Pv (i + 1) H3) (hd : ∀ H, Pv n H → Qd H) :
    ∃ W : Nat → Nat → Hp → Prop, (∃ m, W 0 m (upd H1 D (.dK []))) ∧ ∀ i m H, W i m H →
      (J.stop i H ∧ Qd H) ∨ (J.go i H ∧ ∃ Nx : Hp → Prop, (∀ H', Nx H' → ∃ m', m' < m ∧ W (i + 1) m' H') ∧ ∀ x H', J.yld i H x H' → g x (wipe σ vs) H' fun σ2 H2 => wipe σ2 vs = wipe σ vs ∧ tt σ2 H2 fun b H3 =>
        if b = true then tk σ2 H3 fun y H4 => tv σ2 H4 fun z H5 => ∃ kvs k, y = kV k ∧ H5 D = some (.dK kvs) ∧ kvs.length < sizeLine ∧ Nx (upd H5 D (.dK (putK kvs k z))) else Nx H3) := by
  refine ⟨fun i m H => m = n - i ∧ i ≤ n ∧ Pv i H, ⟨n, by simp, Nat.zero_le _, h0⟩, ?_⟩
  rintro i m H ⟨rfl, hi, p⟩
  have q := hG i H hi p
  by_cases hlt : i < n
  · refine .inr ⟨w.goes i H hlt q, Pv (i + 1), fun H' p' => ⟨n - (i + 1), by omega, rfl, hlt, p'⟩, fun x H' y => hs i x H H' hlt p (w.yields i H x H' hlt q y)⟩
  · have e : i = n := by omega
    subst e
    exact .inl ⟨w.stops H q, hd H p⟩
theorem sq_keepD {K : PySem.W.Frag} {H2 H3 : Hp} {a D : Addr} {xs : List V} {o : HO} (h0 : SqL K H2 a xs) (n : H2 D = none) (h : SqL K H3 a xs) : SqL K (upd H3 D o) a xs := by
  by_cases e : a = D
  · subst e
    rcases h0 with (h0 | ⟨o, h0⟩) | h0
    · rw [n] at h0; cases h0
    · rw [n] at h0; cases h0
    · exact .inr h0
  · rcases h with (h | ⟨o, h⟩) | h
    · exact .inl (.inl (by rw [upd_ne e]; exact h))
    · exact .inl (.inr ⟨o, by rw [upd_ne e]; exact h⟩)
    · exact .inr h
variable {α : Type} {as : List α} {Rp : α → V → Prop} {RR : α → V → Hp → Prop} {xs : List V} {kx vx iter : Expr} {scope : Scope} {l : Addr}
theorem xn_dc (jx : Nat) {y : Str} (key : α → Str) (hx : XE X iter σ H (.ref l)) (hl : SqL X.K H l xs) (pr : Paired (fun x a => Rp a x) xs as) (hz : as.length ≤ 1000) (nd : (as.map key).Nodup)
    (st : ∀ a v H H', Ex H H' → RR a v H → RR a v H') (up : ∀ a v (H : Hp) D acc acc', H D = some (.dK acc) → RR a v H → RR a v (upd H D (.dK acc')))
    (turn : ∀ a x H', a ∈ as → Ex H H' → Rp a x → ∀ (s : Shared) (H0 : Hp) (C : Addr) (cl : List (Str × Addr)) (fp : List Addr), XE (bk X scope s H0 C cl fp) kx ((σ.set jx none).set jx (some x)) H' (.str (key a)) ∧ XP (bk X scope s H0 C cl fp) vx ((σ.set jx none).set jx (some x)) H' (RR a))
    (hN : X.N.Nodup := by assumption) (hg : ∀ (s : Shared) (H0 : Hp) (C : Addr) (cl : List (Str × Addr)) (fp : List Addr), PG (bk X scope s H0 C cl fp) (.Name y p2) (gName jx) := by intro _ _ _ _ _; exact pg_name (by assumption) rfl (Or.inl rfl)) (hc : X.calm = true := by rfl) (ok : BlkOk X.N X.env.scope scope [(y, jx)] := by exact blkOk_by (by kernel_rfl)) (hs : ∀ x, foldedSetIterable iter X.env x = pure x := by intro _; rfl) :
    XN X (.DictComp kx vx [⟨.Name y p2, iter, [], 0⟩] scope pos) σ H (fun p H2 => ∃ vs, H2 p = some (.dK ((as.zip vs).map fun q => (Sum.inr (key q.1), q.2))) ∧ PairsR RR vs as H2) := fun H1 e1 Q q => by
  have hln : as.length = xs.length := (paired_len pr).symm
  refine we (pe_dc (tt := tsB X scope []) (tk := eB X scope kx) (tv := eB X scope vx) (own := [(y, jx)]) (g := gName jx) hc hN (pi_list peT) ok hg (fun s H0 C cl fp => ⟨fun pins s' σ H Q I h => h s H0 C cl fp pins s' I⟩) (fun s H0 C cl fp => ⟨fun pins s' σ H Q I h => h s H0 C cl fp pins s' I⟩) (fun s H0 C cl fp => ⟨fun pins s' σ H Q I h => h s H0 C cl fp pins s' I⟩) hs) (hx H1 e1 _ fun H2 e2 => ⟨l, rfl, ⟨xs, ex_l (e1.trans e2) hl⟩, fun D hD => ?_⟩)
  have hl2 : SqL X.K H2 l xs := ex_l (e1.trans e2) hl
  refine dc_it walk_list (fun i H' => Ex H2 H' ∧ SqL X.K H' l xs ∧ ∃ vs, H' D = some (.dK (((as.take i).zip vs).map fun q => (Sum.inr (key q.1), q.2))) ∧ PairsR RR vs (as.take i) H') ⟨Ex.new hD, sq_keepD hl2 hD hl2, [], upd_same, .nil⟩ (fun i H' hi ⟨_, z, _⟩ => z) (fun i x H3 H4 hi ⟨h2, h2', vs, h3, h4⟩ yy => ?_) fun H' ⟨h2, _, vs, h3, h4⟩ => ?_
  · obtain ⟨rfl, hxi⟩ := yy
    obtain ⟨a, ha, r⟩ := prd_at pr hxi
    have hm : a ∈ as := List.mem_of_getElem? ha
    have eH : Ex H H4 := (e1.trans e2).trans h2
    have lv : vs.length = min i as.length := by rw [paired_len h4, List.length_take]
    refine ⟨wipe1_set σ jx _, fun s H0 C cl fp => ?_⟩
    refine ts_nil H4 (Ex.refl H4) _ fun H5 e5 => ?_
    rw [if_pos rfl]
    intro s' H0' C' cl' fp'
    refine (turn a x H4 hm eH r s' H0' C' cl' fp').1 H5 e5 _ fun H6 e6 => ?_
    intro s' H0' C' cl' fp'
    refine (turn a x H4 hm eH r s' H0' C' cl' fp').2 H6 (e5.trans e6) _ fun v H7 e7 hv => ?_
    have e8 : Ex H4 H7 := (e5.trans e6).trans e7
    have ia : i < as.length := (List.getElem?_eq_some_iff.mp ha).1
    have nk : key a ∉ (as.take i).map key := fun hcc => by
      obtain ⟨j', hj, ej⟩ := List.mem_iff_getElem.mp hcc
      rw [List.length_map, List.length_take] at hj
      have g1 : (as.map key)[j']? = some (key a) := by
        rw [List.getElem_map, List.getElem_take] at ej
        rw [List.getElem?_map, List.getElem?_eq_getElem (by omega), Option.map_some, ej]
      have g2 : (as.map key)[i]? = some (key a) := by rw [List.getElem?_map, ha] <;> rfl
      have := nd_ix nd g1 g2
      omega
    have lz : ((as.take i).zip vs).length = min i as.length := by rw [List.length_zip, List.length_take, lv]; omega
    refine ⟨_, Sum.inr (key a), rfl, e8 _ _ h3, by rw [List.length_map, lz]; exact Nat.lt_of_le_of_lt (Nat.le_trans (Nat.min_le_right _ _) hz) (by decide), Ex.mut (h2.trans e8) hD, sq_keepD hl2 hD (ex_l e8 h2'), vs ++ [v], ?_, ?_⟩
    · rw [upd_same, putK_new _ (by
        have ek : (((as.take i).zip vs).map fun q => ((Sum.inr (key q.1) : Key), q.2)).map (·.1) = ((as.take i).map key).map Sum.inr := by
          rw [List.map_map, List.map_map]
          have : ((as.take i).zip vs).map (fun q => q.1) = as.take i := by
            rw [← List.unzip_fst, List.unzip_zip (by rw [List.length_take, lv])]
          conv => rhs; rw [← this, List.map_map]
          rfl
        have e := val_keys (key a) _ _ ek
        rw [decide_eq_false nk] at e
        exact Option.not_isSome_iff_eq_none.mp (by rw [e]; decide))]
      rw [List.take_add_one, ha]
      simp only [Option.toList_some]
      rw [List.zip_append (by rw [List.length_take, lv]), List.map_append] <;> rfl
    · rw [List.take_add_one, ha]
      have hD7 := e8 _ _ h3
      exact paired_snoc (Paired.mapP (Paired.mapP h4 fun v a r => st a v _ _ e8 r) fun v a r => up a v _ _ _ _ hD7 r) (up a v _ _ _ _ hD7 hv)
  · rw [← hln, List.take_length] at h3 h4
    exact q D H' (fresh_back e2 hD) (e2.trans h2) ⟨vs, h3, h4⟩
end
end Lx
/-! LsH -/
set_option Elab.async false
set_option linter.all false
set_option maxRecDepth 100000
namespace Lx
open PySem PySem.Spec PyProof.Rows L2 Evl
/-! ### comprehensions over what is locked meanwhile -/
def iT (X : Cx) (tg iter : Expr) : TI := fun σ H R => ∀ pins s, Inv X pins σ H s → wpAny (model X.prog X.w) X.A (eval iter X.env) (fun v s1 => wpAny (model X.prog X.w) X.A (pyIter v) (PIE X pins σ tg R) X.xe s1) X.xe s
theorem piT {X : Cx} {tg iter : Expr} : PI X tg iter (iT X tg iter) := ⟨fun pins s σ H R I h => h pins s I⟩
theorem lc_viaW {X : Cx} {tg iter : Expr} {σ : L2.St} {H : Hp} {xs : List V} (src : Src X tg iter σ H xs) {g : TG} {tt : TT} {te : TE} {vs : List Nat} {Q : VK} (h : tLc (Classical.choose src.ex) g tt te vs σ H Q) : tLc (iT X tg iter) g tt te vs σ H Q :=
  fun pins s I => (Classical.choose_spec src.ex).1.run pins s σ H _ I h
section
variable {X : Cx} {iter elt : Expr} {ifs : List Expr} {scope : Scope} {σ : L2.St} {H : Hp} {d : Addr} {u : HO} {xs : List V} {α : Type} {as : List α} {Rp : α → V → Prop} {R : α → V → Hp → Prop} {f : α → Bool} {pos p1 p2 apos : Pos}
theorem xn_lcL (j : Nat) {y : Str} (hd : H d = some u) (mu : Mut (some u)) (src : ∀ od, Src X (.Name y p2) iter σ (upd H d (.frz od u)) xs) (pr : Paired (fun x a => Rp a x) xs as) (st : ∀ a, Stb (R a)) (hz : as.length ≤ 100000)
    (turn : ∀ od a x H', a ∈ as → Ex (upd H d (.frz od u)) H' → Rp a x → ∀ (s : Shared) (H0 : Hp) (C : Addr) (cl : List (Str × Addr)) (fp : List Addr), XTs (bk X scope s H0 C cl fp) ifs ((σ.set j none).set j (some x)) H' (f a) ∧ (f a = true → XP (bk X scope s H0 C cl fp) elt ((σ.set j none).set j (some x)) H' (R a)))
    (hN : X.N.Nodup := by assumption) (hg : ∀ (s : Shared) (H0 : Hp) (C : Addr) (cl : List (Str × Addr)) (fp : List Addr), PG (bk X scope s H0 C cl fp) (.Name y p2) (gName j) := by intro _ _ _ _ _; exact pg_name (by assumption) rfl (Or.inl rfl)) (hc : X.calm = true := by rfl) (ok : BlkOk X.N X.env.scope scope [(y, j)] := by exact blkOk_by (by kernel_rfl)) (hs : ∀ x, foldedSetIterable iter X.env x = pure x := by intro _; rfl) :
    XN X (.ListComp elt [⟨.Name y p2, iter, ifs, 0⟩] scope pos) σ H (fun p H2 => ∃ vs, H2 p = some (.lst vs) ∧ PairsR R vs (as.filter f) H2) :=
  xn_lock hd mu (fun od => xn_lc (f := f) (R := R) (Rp := Rp) j (src od) pr st hz (turn od) hN hg hc ok hs) fun p H2 od np h2 ⟨vs, h, r⟩ => ⟨vs, by rw [upd_ne np]; exact h, r.un st h2⟩
theorem xl_lcL {rp g : α → V} (f : α → Bool) (j : Nat) {y : Str} (hd : H d = some u) (mu : Mut (some u)) (src : ∀ od, Src X (.Name y p2) iter σ (upd H d (.frz od u)) (as.map rp)) (hz : as.length ≤ 100000)
    (turn : ∀ od a H', a ∈ as → Ex (upd H d (.frz od u)) H' → ∀ (s : Shared) (H0 : Hp) (C : Addr) (cl : List (Str × Addr)) (fp : List Addr), XTs (bk X scope s H0 C cl fp) ifs ((σ.set j none).set j (some (rp a))) H' (f a) ∧ (f a = true → XE (bk X scope s H0 C cl fp) elt ((σ.set j none).set j (some (rp a))) H' (g a)))
    (hN : X.N.Nodup := by assumption) (hg : ∀ (s : Shared) (H0 : Hp) (C : Addr) (cl : List (Str × Addr)) (fp : List Addr), PG (bk X scope s H0 C cl fp) (.Name y p2) (gName j) := by intro _ _ _ _ _; exact pg_name (by assumption) rfl (Or.inl rfl)) (hc : X.calm = true := by rfl) (ok : BlkOk X.N X.env.scope scope [(y, j)] := by exact blkOk_by (by kernel_rfl)) (hs : ∀ x, foldedSetIterable iter X.env x = pure x := by intro _; rfl) :
    XL X (.ListComp elt [⟨.Name y p2, iter, ifs, 0⟩] scope pos) σ H ((as.filter f).map g) :=
  xl_of_n (xn_lcL (f := f) (R := fun a v _ => v = g a) (Rp := fun a x => x = rp a) j hd mu src (paired_of_eq as) (fun a => stb_eq) hz (fun od a x H' ha e r s H0 C cl fp => by
    subst r
    exact ⟨(turn od a H' ha e s H0 C cl fp).1, fun hf => xp_e ((turn od a H' ha e s H0 C cl fp).2 hf)⟩) hN hg hc ok hs)
theorem b_setLcL (i j : Nat) {y z : Str} {els : List Stmt} {D : Ends} (hd : H d = some u) (mu : Mut (some u)) (src : ∀ od, Src X (.Name y p2) iter σ (upd H d (.frz od u)) xs) (pr : Paired (fun x a => Rp a x) xs as) (st : ∀ a, Stb (R a)) (hz : as.length ≤ 100000)
    (turn : ∀ od a x H', a ∈ as → Ex (upd H d (.frz od u)) H' → Rp a x → ∀ (s : Shared) (H0 : Hp) (C : Addr) (cl : List (Str × Addr)) (fp : List Addr), XTs (bk X scope s H0 C cl fp) ifs ((σ.set j none).set j (some x)) H' (f a) ∧ (f a = true → XP (bk X scope s H0 C cl fp) elt ((σ.set j none).set j (some x)) H' (R a)))
    (q : ∀ p vs H1, H p = none → Ex H H1 → H1 p = some (.lst vs) → PairsR R vs (as.filter f) H1 → bT X els D (σ.set i (some (.ref p))) H1)
    (hN : X.N.Nodup := by assumption) (hz2 : X.N[i]? = some z := by rfl) (hzl : X.env.scope.names.lookup z = some .local := by rfl) (hsw : swapsWith (.ListComp elt [⟨.Name y p2, iter, ifs, 0⟩] scope p1) (some (.Name z apos)) pos.line X.env = pure true := by exact sw_true rfl rfl rfl (by decide +kernel)) (hg : ∀ (s : Shared) (H0 : Hp) (C : Addr) (cl : List (Str × Addr)) (fp : List Addr), PG (bk X scope s H0 C cl fp) (.Name y p2) (gName j) := by intro _ _ _ _ _; exact pg_name (by assumption) rfl (Or.inl rfl))
    (hc : X.calm = true := by rfl) (ok : BlkOk X.N X.env.scope scope [(y, j)] := by exact blkOk_by (by kernel_rfl)) (hs : ∀ x, foldedSetIterable iter X.env x = pure x := by intro _; rfl) :
    bT X (.Assign [.Name z apos] (.ListComp elt [⟨.Name y p2, iter, ifs, 0⟩] scope p1) pos :: els) D σ H :=
  b_cons (ws (ps_lock (ps_setLc hc hN hz2 hzl hsw piT ok hg (fun s H0 C cl fp => ⟨fun pins s' σ H Q I h => h s H0 C cl fp pins s' I⟩) (fun s H0 C cl fp => ⟨fun pins s' σ H Q I h => h s H0 C cl fp pins s' I⟩) hs))
    ⟨d, u, hd, mu, fun od => lc_viaW (src od) (xn_lcG (f := f) (R := R) (τ := fun a x => (wipe σ [j]).set j (some x)) [(y, j)] hN (src od) pr st hz hg (fun a x H' _ _ _ => ⟨wipe1_set σ j _, fun Q h => h⟩) (turn od) hc ok hs _ (Ex.refl _) _ fun p H2 hp e2 ⟨vs, h1, h2⟩ => by
      have hd2 : H2 d = some (.frz od u) := e2 _ _ upd_same
      have npd : p ≠ d := fun z => by rw [z, upd_same] at hp; cases hp
      exact ⟨hd2, q p vs _ (by rw [upd_ne npd] at hp; exact hp) (ex_unlock (H := H) hd e2) (by rw [upd_ne npd]; exact h1) (h2.un st hd2)⟩)⟩)
end
section
variable {X : Cx} {a c : Expr} {pos : Pos} {σ : L2.St} {H : Hp} {p q : Addr} {xs ys : List V} {i j : Int}
theorem src_is {tg iter : Expr} {xs ys : List V} (h : Src X tg iter σ H xs) (e : xs = ys) : Src X tg iter σ H ys := e ▸ h
/-- two lists, one behind the other -/
theorem xn_cat (ha : XE X a σ H (.ref p)) (hb : XE X c σ H (.ref q)) (h1 : H p = some (.lst xs)) (h2 : H q = some (.lst ys)) (hz : xs.length + ys.length ≤ 100000) : XN X (.BinOp a .Add c pos) σ H (fun r H2 => H2 r = some (.lst (xs ++ ys))) :=
  xn (pe_op op_cat peT peT) fun H1 e1 Q k => ha H1 e1 _ fun H2 e2 => hb H2 (e1.trans e2) _ fun H3 e3 => ⟨p, q, xs, ys, rfl, rfl, e3 _ _ (e2 _ _ (e1 _ _ h1)), e3 _ _ (e2 _ _ (e1 _ _ h2)), sz_of hz, fun r hr => k r _ (fresh_back (e2.trans e3) hr) ((e2.trans e3).trans (Ex.new hr)) upd_same⟩
/-- .., the second new -/
theorem xn_catN (ha : XE X a σ H (.ref p)) (hb : XL X c σ H ys) (h1 : H p = some (.lst xs)) (hz : xs.length + ys.length ≤ 100000) : XN X (.BinOp a .Add c pos) σ H (fun r H2 => H2 r = some (.lst (xs ++ ys))) :=
  xn (pe_op op_cat peT peT) fun H1 e1 Q k => ha H1 e1 _ fun H2 e2 => hb H2 (e1.trans e2) _ fun q H3 _ e3 h2 => ⟨p, q, xs, ys, rfl, rfl, e3 _ _ (e2 _ _ (e1 _ _ h1)), h2, sz_of hz, fun r hr => k r _ (fresh_back (e2.trans e3) hr) ((e2.trans e3).trans (Ex.new hr)) upd_same⟩
theorem x_eqS {s t : Str} (ha : XE X a σ H (.str s)) (hb : XE X c σ H (.str t)) : XE X (.Compare a [.Eq] [c] pos) σ H (.bl (decide (s = t))) := x_is (x_eq ha hb) (by rw [decide_eq_decide.mpr (⟨fun h => V.str.inj h, fun h => by rw [h]⟩ : (V.str s = V.str t) ↔ (s = t))])
theorem t_eqS {s t : Str} (ha : XE X a σ H (.str s)) (hb : XE X c σ H (.str t)) : XT X (.Compare a [.Eq] [c] pos) σ H (decide (s = t)) := t_is (t_eq ha hb) (decide_eq_decide.mpr ⟨fun h => V.str.inj h, fun h => by rw [h]⟩)
theorem x_neS {s t : Str} (ha : XE X a σ H (.str s)) (hb : XE X c σ H (.str t)) : XE X (.Compare a [.NotEq] [c] pos) σ H (.bl (!decide (s = t))) := x_is (x_ne ha hb) (by rw [decide_eq_decide.mpr (⟨fun h => V.str.inj h, fun h => by rw [h]⟩ : (V.str s = V.str t) ↔ (s = t))])
theorem t_neS {s t : Str} (ha : XE X a σ H (.str s)) (hb : XE X c σ H (.str t)) : XT X (.Compare a [.NotEq] [c] pos) σ H (!decide (s = t)) := t_is (t_ne ha hb) (by rw [decide_eq_decide.mpr (⟨fun h => V.str.inj h, fun h => by rw [h]⟩ : (V.str s = V.str t) ↔ (s = t))])
theorem x_b {b b' : Bool} (h : XE X a σ H (.bl b)) (e : b = b') : XE X a σ H (.bl b') := e ▸ h
theorem t_gt (ha : XE X a σ H (.int i)) (hb : XE X c σ H (.int j)) : XT X (.Compare a [.Gt] [c] pos) σ H (decide (j < i)) := t_cmp op_gt ha hb rv_I0 (nomark _)
theorem x_gt (ha : XE X a σ H (.int i)) (hb : XE X c σ H (.int j)) : XE X (.Compare a [.Gt] [c] pos) σ H (.bl (decide (j < i))) := x_cmp op_gt ha hb rv_I0 (nomark _)
theorem t_ge (ha : XE X a σ H (.int i)) (hb : XE X c σ H (.int j)) : XT X (.Compare a [.GtE] [c] pos) σ H (decide (j ≤ i)) := t_cmp op_ge ha hb rv_I0 (nomark _)
theorem t_lt (ha : XE X a σ H (.int i)) (hb : XE X c σ H (.int j)) : XT X (.Compare a [.Lt] [c] pos) σ H (decide (i < j)) := t_cmp op_lt ha hb rv_I0 (nomark _)
end
/-! ### unpacking; lists sorted; texts joined -/
section
variable {X : Cx} {e tg o c : Expr} {es : List Expr} {σ : L2.St} {H : Hp} {D : Ends} {rest : List Stmt} {a : Addr} {xs : List V} {pos p1 p2 apos : Pos} {g : TG} {S : V → Hp → Prop}
theorem b_asg (h : XP X e σ H S) (hg : PG X tg g) (k : ∀ v H1, Ex H H1 → S v H1 → g v σ H1 fun σ2 H2 => bT X rest D σ2 H2) (hs : swapsWithSole [tg] e pos.line X.env = pure false := by rfl) (hw : swappedStores [tg] e X.env = pure none := by rfl)
    (h1 : (assignEach [tg] X.env).map (·.2) = [assign tg X.env] := by rfl) : bT X (.Assign [tg] e pos :: rest) D σ H := b_cons (ws (ps_asg peT hg hs hw h1) (h H (Ex.refl H) _ fun v H1 e1 s1 => k v H1 e1 s1))
/-- i1, .., i5 = a tuple -/
theorem s_un5 (i1 i2 i3 i4 i5 : Nat) {n1 n2 n3 n4 n5 : Str} {q1 q2 q3 q4 q5 tpos : Pos} {kk : Nat} {v1 v2 v3 v4 v5 : V} (h : XE X e σ H (.ref a)) (hx : SqT X.K H a [v1, v2, v3, v4, v5]) (q : XS X rest D (((((σ.set i1 (some v1)).set i2 (some v2)).set i3 (some v3)).set i4 (some v4)).set i5 (some v5)) H)
    (hN : X.N.Nodup := by assumption) (h1 : X.N[i1]? = some n1 := by rfl) (h2 : X.N[i2]? = some n2 := by rfl) (h3 : X.N[i3]? = some n3 := by rfl) (h4 : X.N[i4]? = some n4 := by rfl) (h5 : X.N[i5]? = some n5 := by rfl)
    (l1 : Loc X.env.scope n1 := by first | exact Or.inl rfl | exact Or.inr rfl) (l2 : Loc X.env.scope n2 := by first | exact Or.inl rfl | exact Or.inr rfl) (l3 : Loc X.env.scope n3 := by first | exact Or.inl rfl | exact Or.inr rfl) (l4 : Loc X.env.scope n4 := by first | exact Or.inl rfl | exact Or.inr rfl) (l5 : Loc X.env.scope n5 := by first | exact Or.inl rfl | exact Or.inr rfl)
    (f1 : X.fn n1 = true := by rfl) (f2 : X.fn n2 = true := by rfl) (f3 : X.fn n3 = true := by rfl) (f4 : X.fn n4 = true := by rfl) (f5 : X.fn n5 = true := by rfl) (hc : X.calm = true := by rfl)
    (hn : (assignEach [.Name n1 q1, .Name n2 q2, .Name n3 q3, .Name n4 q4, .Name n5 q5] X.env).length = 5 := by rfl) (hst : (assignEach [.Name n1 q1, .Name n2 q2, .Name n3 q3, .Name n4 q4, .Name n5 q5] X.env).findIdx? (·.1) = none := by rfl)
    (hs : swapsWithSole [.Tuple [.Name n1 q1, .Name n2 q2, .Name n3 q3, .Name n4 q4, .Name n5 q5] kk tpos] e pos.line X.env = pure false := by rfl) (hw : swappedStores [.Tuple [.Name n1 q1, .Name n2 q2, .Name n3 q3, .Name n4 q4, .Name n5 q5] kk tpos] e X.env = pure none := by rfl)
    (ha : (assignEach [.Tuple [.Name n1 q1, .Name n2 q2, .Name n3 q3, .Name n4 q4, .Name n5 q5] kk tpos] X.env).map (·.2) = [assign (.Tuple [.Name n1 q1, .Name n2 q2, .Name n3 q3, .Name n4 q4, .Name n5 q5] kk tpos) X.env] := by rfl) :
    XS X (.Assign [.Tuple [.Name n1 q1, .Name n2 q2, .Name n3 q3, .Name n4 q4, .Name n5 q5] kk tpos] e pos :: rest) D σ H := fun H1 e1 =>
  b_asg (xp_e (fun H2 e2 => h H2 (e1.trans e2))) (pg_tup hc (pgs_cons (pg_name hN h1 l1 (.inl f1)) (pgs_cons (pg_name hN h2 l2 (.inl f2)) (pgs_cons (pg_name hN h3 l3 (.inl f3)) (pgs_cons (pg_name hN h4 l4 (.inl f4)) (pgs_cons (pg_name hN h5 l5 (.inl f5)) pgs_nil))))) hn hst) (fun v H2 e2 ev =>
    ⟨a, _, ev, ex_t (e1.trans e2) hx, rfl, _, _, rfl, _, _, rfl, _, _, rfl, _, _, rfl, _, _, rfl, rfl, q H2 (e1.trans e2)⟩) hs hw ha
theorem s_un2 (i1 i2 : Nat) {n1 n2 : Str} {q1 q2 tpos : Pos} {kk : Nat} {v1 v2 : V} (h : XE X e σ H (.ref a)) (hx : SqT X.K H a [v1, v2]) (q : XS X rest D ((σ.set i1 (some v1)).set i2 (some v2)) H)
    (hN : X.N.Nodup := by assumption) (h1 : X.N[i1]? = some n1 := by rfl) (h2 : X.N[i2]? = some n2 := by rfl)
    (l1 : Loc X.env.scope n1 := by first | exact Or.inl rfl | exact Or.inr rfl) (l2 : Loc X.env.scope n2 := by first | exact Or.inl rfl | exact Or.inr rfl)
    (f1 : X.fn n1 = true := by rfl) (f2 : X.fn n2 = true := by rfl) (hc : X.calm = true := by rfl)
    (hn : (assignEach [.Name n1 q1, .Name n2 q2] X.env).length = 2 := by rfl) (hst : (assignEach [.Name n1 q1, .Name n2 q2] X.env).findIdx? (·.1) = none := by rfl)
    (hs : swapsWithSole [.Tuple [.Name n1 q1, .Name n2 q2] kk tpos] e pos.line X.env = pure false := by rfl) (hw : swappedStores [.Tuple [.Name n1 q1, .Name n2 q2] kk tpos] e X.env = pure none := by rfl)
    (ha : (assignEach [.Tuple [.Name n1 q1, .Name n2 q2] kk tpos] X.env).map (·.2) = [assign (.Tuple [.Name n1 q1, .Name n2 q2] kk tpos) X.env] := by rfl) :
    XS X (.Assign [.Tuple [.Name n1 q1, .Name n2 q2] kk tpos] e pos :: rest) D σ H := fun H1 e1 =>
  b_asg (xp_e (fun H2 e2 => h H2 (e1.trans e2))) (pg_tup hc (pgs_cons (pg_name hN h1 l1 (.inl f1)) (pgs_cons (pg_name hN h2 l2 (.inl f2)) pgs_nil)) hn hst) (fun v H2 e2 ev =>
    ⟨a, _, ev, ex_t (e1.trans e2) hx, rfl, _, _, rfl, _, _, rfl, rfl, q H2 (e1.trans e2)⟩) hs hw ha
/-- sorted of a list of texts -/
theorem xn_sortS {ss : List Str} (hm : X.mg "sorted" = none) (ha : XL X e σ H (ss.map V.str)) (hl : ss.length < 64) (hg : Gl X "sorted" := by rfl)
    (he : starEach [e] X.env = (false, eval e X.env) :: starEach [] X.env := by rfl) (hpl : (backTo pos (starEach [] X.env)).any (·.1) = false := by rfl) : XN X (.Call (.Name "sorted" p1) [e] [] pos) σ H (fun p H2 => ∃ ys : List Str, H2 p = some (.lst (ys.map V.str)) ∧ ys.Perm ss ∧ sortedS ys = true) :=
  xn_blt_n cr_sortedS hm boot_sorted (xn_l ha) (fun p H2 _ h2 H3 e3 Q q => ⟨p, ss, rfl, sq_of (e3 _ _ h2), hl, fun ys p2 hp hs n => q p2 _ n (Ex.new n) ⟨ys, upd_same, hp, hs⟩⟩) hg (by decide) (by decide) he hpl
/-- a.join(new list of texts) -/
theorem x_joinN {s z : Str} {R : Addr → Hp → Prop} (ho : XE X o σ H (.str s)) (ha : XN X e σ H R) (hR : ∀ p H2, R p H2 → ∃ ys : List Str, H2 p = some (.lst (ys.map V.str)) ∧ (ys.map (·.length)).sum + ys.length * s.length ≤ 16777216 ∧ Txt.join s ys = z)
    (hs : starEach [e] X.env = [(false, eval e X.env)] := by rfl) (hbase : attributeBase o "join" X.env (eval o X.env) = eval o X.env := by rfl) (hline : (apos.endLine == pos.line) = true := by rfl) : XE X (.Call (.Attribute o "join" apos) [e] [] pos) σ H (.str z) :=
  xe (pe_join peT peT hs hbase hline) fun H1 e1 Q q => ho H1 e1 _ fun H2 e2 => ⟨⟨s, rfl⟩, ha H2 (e1.trans e2) _ fun p H3 hp e3 r => by
    obtain ⟨ys, hy, hl, hz⟩ := hR p H3 r
    exact ⟨s, p, ys, rfl, rfl, .inl (sq_of hy), hl, by rw [hz]; exact q H3 (e2.trans e3)⟩⟩
/-- str(text) -/
theorem x_strS {s : Str} (hm : X.mg "str" = none) (ha : XE X e σ H (.str s)) (hg : Gl X "str" := by rfl) (he : starEach [e] X.env = (false, eval e X.env) :: starEach [] X.env := by rfl) (hpl : (backTo pos (starEach [] X.env)).any (·.1) = false := by rfl) :
    XE X (.Call (.Name "str" p1) [e] [] pos) σ H (.str s) := x_ty SkE.call_str_str hm boot_str (x_acons ha x_anil he) (fun H1 _ Q q => ⟨s, rfl, q H1 (Ex.refl H1)⟩) hg (by decide) (by decide) he hpl
end
end Lx
/-! LsI -/
set_option Elab.async false
set_option linter.all false
set_option maxRecDepth 100000
namespace Lx
open PySem PySem.Spec PyProof.Rows L2 Evl
section
variable {X : Cx} {C : Addr} {k j : Nat} {sp : Sp} {a c : Expr} {pos : Pos} {σ : L2.St} {H : Hp} {x : V} {b dx : Addr} {fs : List (Str × V)} {r : Bool}
theorem t_inOwn (me : C8.Met X.prog X.w X.K X.mg X.base k C "__contains__" sp []) (hr : Room j X.A) (ha : XE X a σ H x) (hc : XE X c σ H (.ref b)) (hb : H b = some (.ins C dx fs)) (h : PV sp [.ref b, x] H (.bl r)) (hk : k ≤ j := by decide) (hm : behindInMarks .In c = false := by rfl) : XT X (.Compare a [.In] [c] pos) σ H r :=
  t_cmp (op_inOwn me (hr.mono hk)) ha hc (rv_inOwn hb h) hm
theorem t_niOwn (me : C8.Met X.prog X.w X.K X.mg X.base k C "__contains__" sp []) (hr : Room j X.A) (ha : XE X a σ H x) (hc : XE X c σ H (.ref b)) (hb : H b = some (.ins C dx fs)) (h : PV sp [.ref b, x] H (.bl r)) (hk : k ≤ j := by decide) (hm : behindInMarks .NotIn c = false := by rfl) : XT X (.Compare a [.NotIn] [c] pos) σ H (!r) :=
  t_cmp (op_niOwn me (hr.mono hk)) ha hc (rv_niOwn hb h) hm
theorem xl_is {e : Expr} {xs ys : List V} (h : XL X e σ H xs) (q : xs = ys) : XL X e σ H ys := q ▸ h
end
end Lx
/-! LsJ -/
set_option Elab.async false
set_option linter.all false
set_option maxRecDepth 100000
namespace Lx
open PySem PySem.Spec PyProof.Rows L2 Evl
/-! ### [elt for y in (..) for z in text] -/
section
variable {J : It} {n : Nat} {G : Hp → Prop} {Y : Nat → Hp → V → Hp → Prop}
theorem lc_in (w : Walk J n G Y) {g : TG} {tt : TT} {te : TE} {vs : List Nat} {σ : L2.St} {H1 : Hp} {D : Addr} {Nx : Hp → Prop} (Pv : Nat → Hp → Prop) (h0 : Pv 0 H1) (hG : ∀ i H, i ≤ n → Pv i H → G H)
    (hs : ∀ i x H H', i < n → Pv i H → Y i H x H' → g x (wipe σ vs) H' fun σ2 H2 => wipe σ2 vs = wipe σ vs ∧ tt σ2 H2 fun b H3 =>
      if b = true then te σ2 H3 fun y H4 => ∃ acc, H4 D = some (.lst acc) ∧ acc.length < sizeLine ∧ Pv (i + 1) (upd H4 D (.lst (acc ++ [y]))) else Pv (i + 1) H3) (hd : ∀ H, Pv n H → Nx H) :
    ∃ W : Nat → Nat → Hp → Prop, (∃ m, W 0 m H1) ∧ ∀ i m H, W i m H →
      (J.stop i H ∧ Nx H) ∨ (J.go i H ∧ ∃ Nx1 : Hp → Prop, (∀ H', Nx1 H' → ∃ m', m' < m ∧ W (i + 1) m' H') ∧ ∀ x H', J.yld i H x H' → g x (wipe σ vs) H' fun σ2 H2 => wipe σ2 vs = wipe σ vs ∧ tt σ2 H2 fun b H3 =>
        if b = true then te σ2 H3 fun y H4 => ∃ acc, H4 D = some (.lst acc) ∧ acc.length < sizeLine ∧ Nx1 (upd H4 D (.lst (acc ++ [y]))) else Nx1 H3) := by
  refine ⟨fun i m H => m = n - i ∧ i ≤ n ∧ Pv i H, ⟨n, by simp, Nat.zero_le _, h0⟩, ?_⟩
  rintro i m H ⟨rfl, hi, p⟩
  have q := hG i H hi p
  by_cases hlt : i < n
  · exact .inr ⟨w.goes i H hlt q, Pv (i + 1), fun H' p' => ⟨n - (i + 1), by omega, rfl, hlt, p'⟩, fun x H' y => hs i x H H' hlt p (w.yields i H x H' hlt q y)⟩
  · have e : i = n := by omega
    subst e
    exact .inl ⟨w.stops H q, hd H p⟩
theorem lc_out (w : Walk J n G Y) {g : TG} {tt : TT} {Bd : L2.St → Hp → (Hp → Prop) → Prop} {vs : List Nat} {σ : L2.St} {H1 : Hp} {Qd : Hp → Prop} (Pv : Nat → Hp → Prop) (h0 : Pv 0 H1) (hG : ∀ i H, i ≤ n → Pv i H → G H)
    (hs : ∀ i x H H', i < n → Pv i H → Y i H x H' → g x (wipe σ vs) H' fun σ2 H2 => wipe σ2 vs = wipe σ vs ∧ tt σ2 H2 fun b H3 => if b = true then Bd σ2 H3 (Pv (i + 1)) else Pv (i + 1) H3) (hd : ∀ H, Pv n H → Qd H) :
    ∃ W : Nat → Nat → Hp → Prop, (∃ m, W 0 m H1) ∧ ∀ i m H, W i m H →
      (J.stop i H ∧ Qd H) ∨ (J.go i H ∧ ∃ Nx : Hp → Prop, (∀ H', Nx H' → ∃ m', m' < m ∧ W (i + 1) m' H') ∧ ∀ x H', J.yld i H x H' → g x (wipe σ vs) H' fun σ2 H2 => wipe σ2 vs = wipe σ vs ∧ tt σ2 H2 fun b H3 => if b = true then Bd σ2 H3 Nx else Nx H3) := by
  refine ⟨fun i m H => m = n - i ∧ i ≤ n ∧ Pv i H, ⟨n, by simp, Nat.zero_le _, h0⟩, ?_⟩
  rintro i m H ⟨rfl, hi, p⟩
  have q := hG i H hi p
  by_cases hlt : i < n
  · exact .inr ⟨w.goes i H hlt q, Pv (i + 1), fun H' p' => ⟨n - (i + 1), by omega, rfl, hlt, p'⟩, fun x H' y => hs i x H H' hlt p (w.yields i H x H' hlt q y)⟩
  · have e : i = n := by omega
    subst e
    exact .inl ⟨w.stops H q, hd H p⟩
end
def iB (X : Cx) (sc : Scope) (tg iter : Expr) : TI := fun σ H R => ∀ (s : Shared) (H0 : Hp) (C : Addr) (cl : List (Str × Addr)) (fp : List Addr), iT (bk X sc s H0 C cl fp) tg iter σ H R
section
variable {X : Cx} {iter iter1 elt : Expr} {scope : Scope} {σ : L2.St} {H : Hp} {xs : List V} {α : Type} {as : List α} {zt : Str} {rp : α → V} {R : α × Nat → V → Hp → Prop} {pos p1 p2 : Pos}
theorem xn_lc2 (j k : Nat) {y z : Str} (src : Src X (.Name y p1) iter σ H (as.map rp)) (st : ∀ a, Stb (R a)) (hz : as.length * zt.cps.toList.length ≤ 100000)
    (srci : ∀ a H', a ∈ as → Ex H H' → ∀ (s : Shared) (H0 : Hp) (C : Addr) (cl : List (Str × Addr)) (fp : List Addr), XE (bk X scope s H0 C cl fp) iter1 ((wipe σ [j, k]).set j (some (rp a))) H' (.str zt))
    (turn : ∀ a b H', a ∈ as → b ∈ zt.cps.toList → Ex H H' → ∀ (s : Shared) (H0 : Hp) (C : Addr) (cl : List (Str × Addr)) (fp : List Addr), XP (bk X scope s H0 C cl fp) elt ((wipe ((wipe σ [j, k]).set j (some (rp a))) [k]).set k (some (.str ⟨#[b]⟩))) H' (R (a, b)))
    (hN : X.N.Nodup := by assumption) (hg : ∀ (s : Shared) (H0 : Hp) (C : Addr) (cl : List (Str × Addr)) (fp : List Addr), PG (bk X scope s H0 C cl fp) (.Name y p1) (gName j) := by intro _ _ _ _ _; exact pg_name (by assumption) rfl (Or.inl rfl))
    (hg1 : ∀ (s : Shared) (H0 : Hp) (C : Addr) (cl : List (Str × Addr)) (fp : List Addr), PG (bk X scope s H0 C cl fp) (.Name z p2) (gName k) := by intro _ _ _ _ _; exact pg_name (by assumption) rfl (Or.inl rfl))
    (hc : X.calm = true := by rfl) (ok : BlkOk X.N X.env.scope scope [(y, j), (z, k)] := by exact blkOk_by (by kernel_rfl)) (hjk : ∀ v, wipe ((wipe σ [j, k]).set j v) [j, k] = wipe σ [j, k] := by intro _; rfl) (hk : ∀ v w, wipe ((wipe ((wipe σ [j, k]).set j v) [k]).set k w) [k] = wipe ((wipe σ [j, k]).set j v) [k] := by intro _ _; rfl)
    (hs : ∀ x, foldedSetIterable iter X.env x = pure x := by intro _; rfl) (hs1 : ∀ env x, foldedSetIterable iter1 env x = pure x := by intro _ _; rfl) :
    XN X (.ListComp elt [⟨.Name y p1, iter, [], 0⟩, ⟨.Name z p2, iter1, [], 0⟩] scope pos) σ H (fun p H2 => ∃ vs, H2 p = some (.lst vs) ∧ PairsR R vs (as.flatMap fun a => zt.cps.toList.map fun b => (a, b)) H2) := fun H1 e1 Q q => by
  refine we (pe_lc2 (own := [(y, j), (z, k)]) (vs1 := [k]) (wi1 := iB X scope (.Name z p2) iter1) (tt := tsB X scope []) (tt1 := tsB X scope []) (te := eB X scope elt) (g := gName j) (g1 := gName k) hc hN (Classical.choose_spec src.ex).1 ok (fun i hi => by
      rw [List.mem_singleton] at hi
      subst hi
      exact List.mem_cons_of_mem _ (List.mem_cons_self ..)) hg (fun s H0 C cl fp => ⟨fun pins s' σ H Q I h => h s H0 C cl fp pins s' I⟩) (fun s H0 C cl fp => ⟨fun pins s' σ H Q I h => h s H0 C cl fp pins s' I⟩) hg1 (fun s H0 C cl fp => ⟨fun pins s' σ H Q I h => h s H0 C cl fp pins s' I⟩) (fun s H0 C cl fp => ⟨fun pins s' σ H Q I h => h s H0 C cl fp pins s' I⟩) hs hs1) ?_
  refine (Classical.choose_spec src.ex).2 H1 e1 _ fun J G H2 e2 wk g2 gx gd D hD => ?_
  have hl : (as.map rp).length = as.length := List.length_map _
  refine lc_out (Bd := fun σ2 H3 Nx => iB X scope (.Name z p2) iter1 σ2 H3 fun J1 H4 => ∃ W1 : Nat → Nat → Hp → Prop, (∃ m, W1 0 m H4) ∧ ∀ j k H, W1 j k H → (J1.stop j H ∧ Nx H) ∨ (J1.go j H ∧ ∃ Nx1 : Hp → Prop, (∀ H', Nx1 H' → ∃ k', k' < k ∧ W1 (j + 1) k' H') ∧ ∀ x H', J1.yld j H x H' → gName _ x (wipe σ2 [_]) H' fun σ3 H5 => wipe σ3 [_] = wipe σ2 [_] ∧ tsB X scope [] σ3 H5 fun b H6 =>
        if b = true then eB X scope elt σ3 H6 fun y H7 => ∃ acc, H7 D = some (.lst acc) ∧ acc.length < sizeLine ∧ Nx1 (upd H7 D (.lst (acc ++ [y]))) else Nx1 H6)) wk (fun i H' => Ex H2 H' ∧ ∃ vs, H' D = some (.lst vs) ∧ PairsR R vs ((as.take i).flatMap fun a => zt.cps.toList.map fun b => (a, b)) H') ⟨Ex.new hD, [], upd_same, .nil⟩ (fun i H' hi ⟨e, vs, hv, _⟩ => gx _ _ e g2) (fun i x H3 H4 hi ⟨h2, vs, h3, h4⟩ yy => ?_) fun H' ⟨h2, vs, h3, h4⟩ => ?_
  · obtain ⟨rfl, hx⟩ := yy
    rw [List.getElem?_map] at hx
    obtain ⟨a, ha, rfl⟩ := Option.map_eq_some_iff.mp hx
    have hm : a ∈ as := List.mem_of_getElem? ha
    have eH : Ex H H4 := (e1.trans e2).trans h2
    refine ⟨hjk _, fun s H0 C cl fp => ts_nil H4 (Ex.refl H4) _ fun H5 e5 => ?_⟩
    rw [if_pos rfl]
    intro s' H0' C' cl' fp'
    have sr := srci a H5 hm (eH.trans e5) s' H0' C' cl' fp'
    refine fun pins sh I => (pi_str (tg := .Name z p2) peT).run pins sh _ H5 _ I (sr H5 (Ex.refl H5) _ fun H6 e6 => ⟨zt, rfl, ?_⟩)
    have tk : (as.take (i + 1)).flatMap (fun a => zt.cps.toList.map fun b => (a, b)) = ((as.take i).flatMap fun a => zt.cps.toList.map fun b => (a, b)) ++ (zt.cps.toList.map fun b => (a, b)) := by
      rw [List.take_add_one, ha, List.flatMap_append]
      simp
    have fl : ∀ l : List α, (l.flatMap fun a => zt.cps.toList.map fun b => (a, b)).length = l.length * zt.cps.toList.length := fun l => by
      induction l with
      | nil => simp
      | cons u l ih => rw [List.flatMap_cons, List.length_append, ih, List.length_map, List.length_cons, Nat.add_mul]; omega
    have ia : i < as.length := (List.getElem?_eq_some_iff.mp ha).1
    refine lc_in walk_str' (fun i' H' => Ex H2 H' ∧ ∃ vs, H' D = some (.lst vs) ∧ PairsR R vs (((as.take i).flatMap fun a => zt.cps.toList.map fun b => (a, b)) ++ ((zt.cps.toList.take i').map fun b => (a, b))) H') ?_ (fun _ _ _ _ => trivial) ?_ ?_
    · refine ⟨h2.trans (e5.trans e6), vs, (e5.trans e6) _ _ h3, ?_⟩
      rw [List.take_zero, List.map_nil, List.append_nil]
      exact h4.ex st (e5.trans e6)
    · rintro i' x H7 H8 hi' ⟨e7, vs', h7, r7⟩ ⟨rfl, hx⟩
      rw [List.getElem?_map] at hx
      obtain ⟨b, hb, rfl⟩ := Option.map_eq_some_iff.mp hx
      have hmb : b ∈ zt.cps.toList := List.mem_of_getElem? hb
      have ib : i' < zt.cps.toList.length := (List.getElem?_eq_some_iff.mp hb).1
      refine ⟨hk _ _, fun s H0 C cl fp => ts_nil H8 (Ex.refl H8) _ fun H9 e9 => ?_⟩
      rw [if_pos rfl]
      intro s' H0' C' cl' fp'
      refine turn a b H9 hm hmb (((e1.trans e2).trans e7).trans e9) s' H0' C' cl' fp' H9 (Ex.refl H9) _ fun v H10 e10 hv => ?_
      have hD10 := e10 _ _ (e9 _ _ h7)
      refine ⟨vs', hD10, ?_, Ex.mut ((e7.trans e9).trans e10) hD, vs' ++ [v], upd_same, ?_⟩
      · rw [paired_len r7, List.length_append, fl, List.length_take, List.length_map, List.length_take]
        refine Nat.lt_of_le_of_lt (m := as.length * zt.cps.toList.length) ?_ (Nat.lt_of_le_of_lt hz (by decide))
        have m1 : min i as.length = i := by omega
        have m2 : min i' zt.cps.toList.length = i' := by omega
        rw [m1, m2]
        have : (i + 1) * zt.cps.toList.length ≤ as.length * zt.cps.toList.length := Nat.mul_le_mul_right _ ia
        rw [Nat.add_mul] at this
        omega
      · rw [List.take_add_one, hb, List.map_append, ← List.append_assoc]
        exact paired_snoc ((r7.ex st (e9.trans e10)).up st hD10) ((st _).up hD10 hv)
    · rintro H7 ⟨e7, vs', h7, r7⟩
      refine ⟨e7, vs', h7, ?_⟩
      rw [List.length_map, List.take_length] at r7
      rw [tk]
      exact r7
  · rw [hl, List.take_length] at h4
    exact q D H' (fresh_back e2 hD) (e2.trans h2) ⟨vs, h3, h4⟩
end
end Lx
/-! LsT -/
set_option Elab.async false
set_option linter.all false
set_option maxRecDepth 100000
namespace Ls
open PySem PySem.Spec PyProof.Rows L2 Lx
open Evl (Ex Ex.refl Ex.trans Ex.mut Ex.new Ev EvT EvL EvU EvA ex_l ex_t ex_rd sq_of st_of sz_of sz_lt fresh_back)
/-- a column: its word, home, goal, whether it falls -/
structure Col where
  word : Str
  home : Str
  goal : Str
  fall : Bool
def ruleS (b : Bool) : Str := if b then "fall" else "clear"
def colF (c : Col) : List (Str × V) := [("word", .str c.word), ("home", .str c.home), ("goal", .str c.goal), ("rule", .str (ruleS c.fall))]
theorem colF_word (c : Col) : (colF c).lookup ("word" : Str) = some (.str c.word) := by rfl
theorem colF_home (c : Col) : (colF c).lookup ("home" : Str) = some (.str c.home) := by rfl
theorem colF_goal (c : Col) : (colF c).lookup ("goal" : Str) = some (.str c.goal) := by rfl
theorem colF_rule (c : Col) : (colF c).lookup ("rule" : Str) = some (.str (ruleS c.fall)) := by rfl
/-- a book -/
structure Bk where
  kinds : List (Str × Bool)
  cols : List Col
  checks : List Str
def bkF (d1 l2 d3 l4 l5 : Addr) : List (Str × V) := [("open_kinds", .ref d1), ("column_rows", .ref l2), ("column_table", .ref d3), ("all_checks", .ref l4), ("own_checks", .ref l5)]
theorem bkF_1 {d1 l2 d3 l4 l5 : Addr} : (bkF d1 l2 d3 l4 l5).lookup ("open_kinds" : Str) = some (.ref d1) := by rfl
theorem bkF_2 {d1 l2 d3 l4 l5 : Addr} : (bkF d1 l2 d3 l4 l5).lookup ("column_rows" : Str) = some (.ref l2) := by rfl
theorem bkF_3 {d1 l2 d3 l4 l5 : Addr} : (bkF d1 l2 d3 l4 l5).lookup ("column_table" : Str) = some (.ref d3) := by rfl
theorem bkF_4 {d1 l2 d3 l4 l5 : Addr} : (bkF d1 l2 d3 l4 l5).lookup ("all_checks" : Str) = some (.ref l4) := by rfl
theorem bkF_5 {d1 l2 d3 l4 l5 : Addr} : (bkF d1 l2 d3 l4 l5).lookup ("own_checks" : Str) = some (.ref l5) := by rfl
/-- a watch's fields: law_book, home, can_mark, sorts; of a column's watch: by, goal, other_column -/
def kwF (b m : Addr) (home sorts : Str) : List (Str × V) := [("law_book", .ref b), ("home", .str home), ("can_mark", .ref m), ("sorts", .str sorts)]
def cwF (b m c : Addr) (home goal sorts : Str) (o : V) : List (Str × V) := [("law_book", .ref b), ("home", .str home), ("can_mark", .ref m), ("sorts", .str sorts), ("by", .ref c), ("goal", .str goal), ("other_column", o)]
structure Tf (K : PySem.W.Frag) (mg : Str → Option Value) : Prop where
  d_is_name : DF K mg "is_name" (top 27) ["thing"]
  d_stands_in : DF K mg "stands_in" (top 30) ["thing", "names"]
  d_check_fresh : DF K mg "check_fresh" (top 35) ["word", "known"]
  d_kinds_of : DF K mg "kinds_of" (top 36) ["kinds"]
  d_column_rows_of : DF K mg "column_rows_of" (top 37) ["columns", "kinds"]
  d_checks_of : DF K mg "checks_of" (top 38) ["checks", "menu"]
  d_menu_of : DF K mg "menu_of" (top 39) ["kinds", "columns"]
  d_lacking : DF K mg "lacking" (top 52) ["letters", "letter"]
  d_watch_of : DF K mg "watch_of" (top 56) ["book", "question"]
  d_checked_question : DF K mg "checked_question" (top 58) ["book", "question"]
  d_behind_all : DF K mg "behind_all" (top 59) ["watch", "state"]
  d_table : DF K mg "table" (top 60) ["book", "question"]
  d_way_to_fault : DF K mg "way_to_fault" (top 67) ["watch", "word"]
  d_chain_up : DF K mg "chain_up" (top 68) ["book", "kind"]
  d_put_chain : DF K mg "put_chain" (top 69) ["chain", "first"]
  d_mark_by_chain : DF K mg "mark_by_chain" (top 70) ["chain", "first", "number"]
  d_judge : DF K mg "judge" (top 85) ["book", "question"]
  d_law_draw : DF K mg "_law_draw" (top 87) ["_law_stream", "_law_many"]
  d_law_pick : DF K mg "_law_pick" (top 88) ["_law_stream", "_law_things"]
  d_law_mixed : DF K mg "_law_mixed" (top 89) ["_law_stream", "_law_things"]
  d_law_same : DF K mg "_law_same" (top 90) ["_law_found", "_law_due"]
  d_law_fresh : DF K mg "_law_fresh" (top 91) ["_law_stream", "_law_taken"]
  d_law_names : DF K mg "_law_names" (top 92) ["_law_stream", "_law_many"]
  d_law_shape : DF K mg "_law_shape" (top 93) ["_law_stream", "_law_many", "_law_most"]
  d_law_all_checks : DF K mg "_law_all_checks" (top 94) ["_law_b"]
  d_law_checked : DF K mg "_law_checked" (top 95) ["_law_stream", "_law_b"]
  d_law_rules : DF K mg "_law_rules" (top 96) ["_law_stream", "_law_many", "_law_most"]
  d_law_made : DF K mg "_law_made" (top 97) ["_law_b"]
  d_law_by : DF K mg "_law_by" (top 98) ["_law_b", "_law_name"]
  d_law_markable : DF K mg "_law_markable" (top 99) ["_law_b"]
  d_law_checks : DF K mg "_law_checks" (top 100) ["_law_b", "_law_word", "_law_name"]
  d_law_questions : DF K mg "_law_questions" (top 101) ["_law_b"]
  d_law_comes : DF K mg "_law_comes" (top 102) ["_law_b", "_law_question"]
  d_law : DF K mg "law" (top 103) ["_law_script"]
  m_C_init : MF K (cC K) "__init__" "Column.__init__" (meth 34 0) ["self", "word", "home", "goal", "rule"]
  m_B_init : MF K (cB K) "__init__" "Book.__init__" (meth 40 0) ["self", "kinds", "columns", "checks"]
  m_B_columns_of : MF K (cB K) "columns_of" "Book.columns_of" (meth 40 5) ["self", "kind"]
  m_B_markable : MF K (cB K) "markable" "Book.markable" (meth 40 6) ["self"]
  m_B_questions : MF K (cB K) "questions" "Book.questions" (meth 40 7) ["self"]
  m_B_contains : MF K (cB K) "__contains__" "Book.__contains__" (meth 40 9) ["self", "check"]
  m_K_has : MF K (cK K) "has" "Watch.has" (meth 53 1) ["self", "word", "name"]
  m_K_may_mark : MF K (cK K) "may_mark" "Watch.may_mark" (meth 53 2) ["self", "kind", "letters"]
  m_K_may_put : MF K (cK K) "may_put" "Watch.may_put" (meth 53 3) ["self", "row"]
  m_K_with_letter : MF K (cK K) "with_letter" "Watch.with_letter" (meth 53 4) ["self", "letters", "letter"]
  m_K_list_labels : MF K (cK K) "list_labels" "Watch.list_labels" (meth 53 6) ["self"]
  m_W_has : MF K (cW K) "has" "Watch.has" (meth 53 1) ["self", "word", "name"]
  m_W_may_mark : MF K (cW K) "may_mark" "Watch.may_mark" (meth 53 2) ["self", "kind", "letters"]
  m_W_may_put : MF K (cW K) "may_put" "Watch.may_put" (meth 53 3) ["self", "row"]
  m_W_with_letter : MF K (cW K) "with_letter" "Watch.with_letter" (meth 53 4) ["self", "letters", "letter"]
  m_W_list_labels : MF K (cW K) "list_labels" "Watch.list_labels" (meth 53 6) ["self"]
  m_K_init : MF K (cK K) "__init__" "Watch.__init__" (meth 53 0) ["self", "book", "home"]
  m_K_begin : MF K (cK K) "begin" "KindWatch.begin" (meth 54 0) ["self"]
  m_K_labels : MF K (cK K) "labels" "KindWatch.labels" (meth 54 1) ["self"]
  m_K_outcome : MF K (cK K) "outcome" "KindWatch.outcome" (meth 54 3) ["self", "label", "state"]
  m_K_is_fault : MF K (cK K) "is_fault" "KindWatch.is_fault" (meth 54 4) ["self", "word", "state", "wrong"]
  m_W_begin : MF K (cW K) "begin" "ColumnWatch.begin" (meth 55 1) ["self"]
  m_W_labels : MF K (cW K) "labels" "ColumnWatch.labels" (meth 55 2) ["self"]
  m_W_first_other : MF K (cW K) "first_other" "ColumnWatch.first_other" (meth 55 4) ["self"]
  m_W_outcome : MF K (cW K) "outcome" "ColumnWatch.outcome" (meth 55 5) ["self", "label", "state"]
  m_W_may_refer : MF K (cW K) "may_refer" "ColumnWatch.may_refer" (meth 55 6) ["self", "word", "owner", "state"]
  m_W_put_behind : MF K (cW K) "put_behind" "ColumnWatch.put_behind" (meth 55 7) ["self", "row", "owner", "state"]
  m_W_turned : MF K (cW K) "turned" "ColumnWatch.turned" (meth 55 8) ["self", "owner", "state"]
  m_W_marked_behind : MF K (cW K) "marked_behind" "ColumnWatch.marked_behind" (meth 55 9) ["self", "label", "state"]
  m_W_fitting : MF K (cW K) "fitting" "ColumnWatch.fitting" (meth 55 10) ["self", "letter", "state"]
  m_W_looked : MF K (cW K) "looked" "ColumnWatch.looked" (meth 55 11) ["self", "letter", "state"]
  m_W_done_behind : MF K (cW K) "done_behind" "ColumnWatch.done_behind" (meth 55 12) ["self", "letter", "state"]
  m_W_is_fault : MF K (cW K) "is_fault" "ColumnWatch.is_fault" (meth 55 13) ["self", "word", "state", "wrong"]
  m_V_init : MF K (cV K) "__init__" "Weaver.__init__" (meth 71 0) ["self", "watch", "way"]
  m_V_kind_at : MF K (cV K) "kind_at" "Weaver.kind_at" (meth 71 1) ["self", "row"]
  m_V_chain_of : MF K (cV K) "chain_of" "Weaver.chain_of" (meth 71 2) ["self", "row"]
  m_V_is_marked_behind : MF K (cV K) "is_marked_behind" "Weaver.is_marked_behind" (meth 71 3) ["self", "at", "row"]
  m_V_put_row : MF K (cV K) "put_row" "Weaver.put_row" (meth 71 4) ["self", "at"]
  m_V_mark_row : MF K (cV K) "mark_row" "Weaver.mark_row" (meth 71 5) ["self", "row"]
  m_V_look_for : MF K (cV K) "look_for" "Weaver.look_for" (meth 71 6) ["self", "letter"]
  m_V_woven : MF K (cV K) "woven" "Weaver.woven" (meth 71 7) ["self"]
  cl_C : Cls K (cC K)
  cl_B : Cls K (cB K)
  cl_K : Cls K (cK K)
  cl_W : Cls K (cW K)
  cl_V : Cls K (cV K)
  nC_word : NoAttr K (cC K) "word"
  nC_home : NoAttr K (cC K) "home"
  nC_goal : NoAttr K (cC K) "goal"
  nC_rule : NoAttr K (cC K) "rule"
  nB_open_kinds : NoAttr K (cB K) "open_kinds"
  nB_column_rows : NoAttr K (cB K) "column_rows"
  nB_column_table : NoAttr K (cB K) "column_table"
  nB_all_checks : NoAttr K (cB K) "all_checks"
  nB_own_checks : NoAttr K (cB K) "own_checks"
  nK_law_book : NoAttr K (cK K) "law_book"
  nK_home : NoAttr K (cK K) "home"
  nK_can_mark : NoAttr K (cK K) "can_mark"
  nK_sorts : NoAttr K (cK K) "sorts"
  nW_law_book : NoAttr K (cW K) "law_book"
  nW_home : NoAttr K (cW K) "home"
  nW_can_mark : NoAttr K (cW K) "can_mark"
  nW_sorts : NoAttr K (cW K) "sorts"
  nW_by : NoAttr K (cW K) "by"
  nW_goal : NoAttr K (cW K) "goal"
  nW_other_column : NoAttr K (cW K) "other_column"
  nV_watch : NoAttr K (cV K) "watch"
  nV_way : NoAttr K (cV K) "way"
  nV_made : NoAttr K (cV K) "made"
  nV_held : NoAttr K (cV K) "held"
  nV_chains : NoAttr K (cV K) "chains"
  nV_unused : NoAttr K (cV K) "unused"
  k_C : ∃ f, Mk K (cC K) f
  g_C : mg "Column" = some (.ref (cC K))
  k_B : ∃ f, Mk K (cB K) f
  g_B : mg "Book" = some (.ref (cB K))
  k_K : ∃ f, Mk K (cK K) f
  g_K : mg "KindWatch" = some (.ref (cK K))
  k_W : ∃ f, Mk K (cW K) f
  g_W : mg "ColumnWatch" = some (.ref (cW K))
  k_V : ∃ f, Mk K (cV K) f
  g_V : mg "Weaver" = some (.ref (cV K))
  b_len : mg "len" = none
  b_isinstance : mg "isinstance" = none
  b_str : mg "str" = none
  b_all : mg "all" = none
  b_list : mg "list" = none
  b_sorted : mg "sorted" = none
  b_range : mg "range" = none
  b_reversed : mg "reversed" = none
  b_tuple : mg "tuple" = none
  b_min : mg "min" = none
  b_int : mg "int" = none
  b_enumerate : mg "enumerate" = none
  b_repr : mg "repr" = none
  b_super : mg "super" = none
  s_FALL : ∃ t, mg "FALL" = some (.str "fall" t)
  s_CLEAR : ∃ t, mg "CLEAR" = some (.str "clear" t)
  s_STRUCK : ∃ t, mg "STRUCK" = some (.str "strike" t)
  s_LETTERS : ∃ t, mg "LETTERS" = some (.str "abcdefghijklmnopqrstuvwxyz" t)
  s_HELPER : ∃ t, mg "HELPER" = some (.int 2 t)
  t_HERE : ∃ h, mg "HERE" = some (.ref h) ∧ ∀ H, SqT K H h [.str "plain", .str "marked", .str "other"]
end Ls
/-! LsA -/
set_option Elab.async false
set_option linter.all false
set_option maxRecDepth 100000
namespace Ls
open PySem PySem.Spec PyProof.Rows L2 Lx
open Evl (Ex Ex.refl Ex.trans Ex.mut Ex.new Ev EvT EvL EvU EvA ex_l ex_t ex_rd sq_of st_of sz_of sz_lt fresh_back)
/-- where a book's things stand -/
structure BkA where
  dx : Addr
  d1 : Addr
  l2 : Addr
  d3 : Addr
  l4 : Addr
  l5 : Addr
  vs : List V
def ColAt (K : PySem.W.Frag) (H : Hp) (v : V) (c : Col) : Prop := ∃ p dx, v = .ref p ∧ H p = some (.ins (cC K) dx (colF c))
structure BkAt (K : PySem.W.Frag) (H : Hp) (b : Addr) (a : BkA) (B : Bk) : Prop where
  hb : H b = some (.ins (cB K) a.dx (bkF a.d1 a.l2 a.d3 a.l4 a.l5))
  hk : H a.d1 = some (.dK (B.kinds.map fun k => (Sum.inr k.1, V.bl k.2)))
  hc : H a.d3 = some (.dK ((B.cols.zip a.vs).map fun p => (Sum.inr p.1.word, p.2)))
  hv : Paired (ColAt K H) a.vs B.cols
  ho : SqL K H a.l5 (B.checks.map V.str)
section
variable {K : PySem.W.Frag} {H H' : Hp} {b : Addr} {a : BkA} {B : Bk}
theorem BkAt.mono (h : BkAt K H b a B) (e : Ex H H') : BkAt K H' b a B :=
  ⟨e _ _ h.hb, e _ _ h.hk, e _ _ h.hc, Paired.mapP h.hv fun v c ⟨p, dx, h1, h2⟩ => ⟨p, dx, h1, e _ _ h2⟩, ex_l e h.ho⟩
end
section
variable {P : Program} {w : World} {K : PySem.W.Frag} {mg : Str → Option Value} {base : Heap}
/-! ### stands_in -/
def spStands (K : PySem.W.Frag) : Sp := fun vs H Q _ => ∃ s a xs, vs = [.str s, .ref a] ∧ Holds K H a xs ∧ ∀ H', Ex H H' → Q (.bl (decide (s ∈ xs))) H'
theorem v_stands {H : Hp} {s : Str} {a : Addr} {xs : List Str} (h : Holds K H a xs) : PV (spStands K) [.str s, .ref a] H (.bl (decide (s ∈ xs))) := fun H1 e Q q => ⟨s, a, xs, rfl, h.mono e, q⟩
theorem ok_stands (T : Tf K mg) : C8.Cal P w K mg base 1 "stands_in" (spStands K) [] := by
  refine cal_of (N := ["thing", "names"]) T.d_stands_in (by decide +kernel) (fun vs H Q E ⟨s, a, xs, e, _⟩ => by rw [e]; rfl) fun f cdv A outer s H vs Q E hr nd h => ?_
  obtain ⟨s, a, xs, rfl, hh, q⟩ := h
  refine XS.run (s_ret (x_and (x_isStr T.b_isinstance T.b_str (x_var 0)) fun _ => x_one (x_inA hr (x_var 0) (x_var 1) hh)) fun H1 e => ?_)
  exact q H1 e
/-! ### check in book -/
def spCont (K : PySem.W.Frag) : Sp := fun vs H Q _ => ∃ s b a B, vs = [.ref b, .str s] ∧ BkAt K H b a B ∧ ∀ H', Ex H H' → Q (.bl (decide (s ∈ B.checks))) H'
theorem v_cont {H : Hp} {s : Str} {b : Addr} {a : BkA} {B : Bk} (h : BkAt K H b a B) : PV (spCont K) [.ref b, .str s] H (.bl (decide (s ∈ B.checks))) := fun H1 e Q q => ⟨s, b, a, B, rfl, h.mono e, q⟩
theorem ok_cont (T : Tf K mg) : C8.Met P w K mg base 2 (cB K) "__contains__" (spCont K) [] := by
  refine met_of (N := ["self", "check"]) T.m_B_contains (by decide +kernel) (fun vs H Q E ⟨s, b, a, B, e, _⟩ => by rw [e]; rfl) fun f cdv A outer s H vs Q E hr nd h => ?_
  obtain ⟨s, b, a, B, rfl, hh, q⟩ := h
  refine XS.run (s_ret (x_call (ok_stands T) hr (x_acons (x_var 1) (x_acons (x_fld (x_var 0) hh.hb T.cl_B T.nB_own_checks bkF_5) x_anil)) (v_stands (.inl (.inl hh.ho)))) q)
end
end Ls
/-! LsB -/
set_option Elab.async false
set_option linter.all false
set_option maxRecDepth 100000
namespace Ls
open PySem PySem.Spec PyProof.Rows L2 Lx
open Evl (Ex Ex.refl Ex.trans Ex.mut Ex.new Ev EvT EvL EvU EvA ex_l ex_t ex_rd sq_of st_of sz_of sz_lt fresh_back)
def letters : Str := "abcdefghijklmnopqrstuvwxyz"
structure NameOk (s : Str) : Prop where
  lo : 1 ≤ s.length
  hi : s.length ≤ 8
  ns : s ≠ "strike"
  lt : ∀ c ∈ s.cps.toList, c ∈ letters.cps.toList
section
variable {P : Program} {w : World} {K : PySem.W.Frag} {mg : Str → Option Value} {base : Heap}
theorem x_gl {X : Cx} {x z : Str} {p : Pos} {σ : L2.St} {H : Hp} (h : ∃ t, X.mg x = some (.str z t)) (hg : Gl X x := by rfl) (hd : (x == ("__debug__" : Str)) = false := by decide) : XE X (.Name x p) σ H (.str z) :=
  let ⟨t, e⟩ := h; x_glob e ⟨t, rfl⟩ hg hd
/-! ### is_name, of a name -/
def spName : Sp := fun vs H Q _ => ∃ s, vs = [.str s] ∧ NameOk s ∧ ∀ H', Ex H H' → Q (.bl true) H'
theorem v_name {H : Hp} {s : Str} (h : NameOk s) : PV spName [.str s] H (.bl true) := fun H1 e Q q => ⟨s, rfl, h, q⟩
theorem ok_name (T : Tf K mg) : C8.Cal P w K mg base 1 "is_name" spName [] := by
  refine cal_of (N := ["thing", "letter"]) T.d_is_name (by decide +kernel) (fun vs H Q E ⟨s, e, _⟩ => by rw [e]; rfl) fun f cdv A outer s H vs Q E hr nd h => ?_
  obtain ⟨s, rfl, ⟨h1, h2, h3, h4⟩, q⟩ := h
  refine XS.run (s_if (t_is (t_w (w_or (t_not (t_val (x_isStr T.b_isinstance T.b_str (x_var 0)))) fun _ => w_or (t_not (t_chain x_int (x_lenS T.b_len (x_var 0) (by omega)) x_int)) fun _ => w_or1 (t_eq (x_var 0) (x_gl T.s_STRUCK)))) (b' := false) ?_) (fun e => nomatch e) fun _ => s_then ?_)
  · have e1 : decide ((1 : Int) ≤ (s.length : Int)) = true := decide_eq_true (by omega)
    have e2 : decide ((s.length : Int) ≤ 8) = true := decide_eq_true (by omega)
    have e3 : decide (V.str s = V.str "strike") = false := decide_eq_false fun e => h3 (V.str.inj e)
    rw [e1, e2, e3] <;> rfl
  · refine s_ret (x_all (bs := s.cps.toList.map fun c => decide (c ∈ letters.cps.toList)) T.b_all (xn_imp (xn_l (x_lcE 1 (fun _ => true) (fun c => V.bl (decide (c ∈ letters.cps.toList))) (src_s (x_var 0)) (by rw [Array.length_toList]; exact Nat.le_trans h2 (by decide)) fun c H' hc e _ _ _ _ _ =>
      ⟨ts_nil, fun _ => x_inSign (x_var 1) (x_gl T.s_LETTERS)⟩)) fun p H2 _ k => by rw [k, filter_yes, List.map_map] <;> rfl)) fun H1 e => ?_
    · have ea : (s.cps.toList.map fun c => decide (c ∈ letters.cps.toList)).all id = true := List.all_eq_true.mpr fun b hb => by
        obtain ⟨c, hc, e⟩ := List.mem_map.mp hb
        rw [← e]
        exact decide_eq_true (h4 c hc)
      rw [ea]
      exact q H1 e
/-! ### check_fresh, of a name that is new -/
def spFresh (K : PySem.W.Frag) : Sp := fun vs H Q _ => ∃ s a xs, vs = [.str s, .ref a] ∧ NameOk s ∧ Holds K H a xs ∧ s ∉ xs ∧ ∀ H', Ex H H' → Q .non H'
theorem v_fresh {H : Hp} {s : Str} {a : Addr} {xs : List Str} (h : NameOk s) (hh : Holds K H a xs) (n : s ∉ xs) : PV (spFresh K) [.str s, .ref a] H .non := fun H1 e Q q => ⟨s, a, xs, rfl, h, hh.mono e, n, q⟩
theorem ok_fresh (T : Tf K mg) : C8.Cal P w K mg base 2 "check_fresh" (spFresh K) [] := by
  refine cal_of (N := ["word", "known"]) T.d_check_fresh (by decide +kernel) (fun vs H Q E ⟨s, a, xs, e, _⟩ => by rw [e]; rfl) fun f cdv A outer s H vs Q E hr nd h => ?_
  obtain ⟨s, a, xs, rfl, hn, hh, n, q⟩ := h
  refine XS.run (s_if (t_not (t_val (x_call (ok_name T) hr (x_acons (x_var 0) x_anil) (v_name hn)))) (fun e => nomatch e) fun _ => s_then ?_)
  refine s_if (t_is (t_inA hr (x_var 0) (x_var 1) hh) (decide_eq_false n)) (fun e => nomatch e) fun _ => s_then (s_nil fun H1 e => q H1 e)
/-! ### kinds_of -/
def kindT (k : Str × Bool) : List V := [.str k.1, .bl k.2]
def kindD (ks : List (Str × Bool)) : List (Key × V) := ks.map fun k => (Sum.inr k.1, V.bl k.2)
/-- the list at a holds the kinds ks as pairs -/
def KindsAt (K : PySem.W.Frag) (H : Hp) (a : Addr) (ks : List (Str × Bool)) : Prop := ∃ vs, SqL K H a vs ∧ Paired (fun v k => ∃ p, v = V.ref p ∧ H p = some (.tup (kindT k))) vs ks
theorem KindsAt.mono {H H' : Hp} {a : Addr} {ks : List (Str × Bool)} (h : KindsAt K H a ks) (e : Ex H H') : KindsAt K H' a ks := let ⟨vs, h1, h2⟩ := h; ⟨vs, ex_l e h1, Paired.mapP h2 fun v k ⟨p, a, b⟩ => ⟨p, a, e _ _ b⟩⟩
def spKinds (K : PySem.W.Frag) : Sp := fun vs H Q _ => ∃ a ks, vs = [.ref a] ∧ KindsAt K H a ks ∧ (∀ k ∈ ks, NameOk k.1) ∧ (ks.map (·.1)).Nodup ∧ ks.length ≤ 10 ∧ ∀ p H', H p = none → Ex H H' → H' p = some (.dK (kindD ks)) → Q (.ref p) H'
theorem kindD_keys (ks : List (Str × Bool)) : (kindD ks).map (·.1) = (ks.map (·.1)).map Sum.inr := by
  unfold kindD
  rw [List.map_map, List.map_map] <;> rfl
theorem val_none_of {kvs : List (Key × V)} {xs : List Str} {s : Str} (h : kvs.map (·.1) = xs.map Sum.inr) (n : s ∉ xs) : valV kvs (Sum.inr s : Key) = none := by
  have e := val_keys s kvs xs h
  rw [decide_eq_false n] at e
  exact Option.not_isSome_iff_eq_none.mp (by rw [e]; decide)
theorem ok_kinds (T : Tf K mg) : C8.Cal P w K mg base 3 "kinds_of" (spKinds K) [] := by
  refine cal_of (N := ["kinds", "found", "word", "is_open"]) T.d_kinds_of (by decide +kernel) (fun vs H Q E ⟨a, ks, e, _⟩ => by rw [e]; rfl) fun f cdv A outer s H vs Q E hr nd h => ?_
  obtain ⟨a, ks, rfl, ⟨vs, h1, h2⟩, h3, h4, h5, q⟩ := h
  refine b_setN 1 xn_dK fun d H1 d0 e1 hd => ?_
  refine b_forL (xp_e (x_var 0)) (pg_tup rfl (pgs_cons (pg_name (i := 2) nd rfl (.inl rfl)) (pgs_cons (pg_name (i := 3) nd rfl (.inl rfl)) pgs_nil))) fun v H2 e2 ev => ?_
  refine ⟨a, vs, fun i σ H' => (∃ x y, σ = [some (.ref a), some (.ref d), x, y]) ∧ Ex H H' ∧ H' d = some (.dK (kindD (ks.take i))), ev, ⟨⟨none, none, rfl⟩, e1.trans e2, e2 _ _ hd⟩, fun i σ H' ⟨_, e, _⟩ => ex_l e h1, ?_, ?_⟩
  · rintro i x σ H' hx ⟨⟨y, z, rfl⟩, e3, hd3⟩
    obtain ⟨k, hk, p, rfl, hp⟩ := prd_at h2 hx
    have hm : k ∈ ks := List.mem_of_getElem? hk
    refine ⟨p, _, rfl, st_of (e3 _ _ hp), rfl, _, _, rfl, _, _, rfl, rfl, ?_⟩
    have hh : Holds K H' d ((ks.take i).map (·.1)) := .inr ⟨_, .inl hd3, kindD_keys _⟩
    have hl : i < ks.length := (List.getElem?_eq_some_iff.mp hk).1
    have nn : k.1 ∉ (ks.take i).map (·.1) := fun hc => by
      obtain ⟨j, hj, ej⟩ := List.mem_iff_getElem.mp hc
      rw [List.length_map, List.length_take] at hj
      have e1 : (ks.map (·.1))[j]? = some k.1 := by
        rw [List.getElem_map, List.getElem_take] at ej
        rw [List.getElem?_map, List.getElem?_eq_getElem (by omega), Option.map_some, ej]
      have e2 : (ks.map (·.1))[i]? = some k.1 := by rw [List.getElem?_map, hk] <;> rfl
      have := nd_ix h4 e1 e2
      omega
    refine b_expr (x_call (ok_fresh T) hr (x_acons (x_var 2) (x_acons (x_var 1) x_anil)) (v_fresh (h3 k hm) hh nn)) fun H4 e4 => ?_
    refine b_dput (S := fun v _ => v = .bl k.2) (H4 := fun H5 => upd H5 d (.dK (putK (kindD (ks.take i)) (Sum.inr k.1 : Key) (.bl k.2)))) hr (xp_e (x_var 3)) (x_var 1) (x_var 2) (fun v H5 e5 ev => ?_) fun _ _ _ _ z => z
    subst ev
    have hl2 : (kindD (ks.take i)).length < sizeLine := by
      unfold kindD
      rw [List.length_map, List.length_take]
      exact Nat.lt_of_le_of_lt (Nat.le_trans (Nat.min_le_right _ _) h5) (by decide)
    refine ⟨DPut.k (k := Sum.inr k.1) (e5 _ _ (e4 _ _ hd3)) hl2, b_nil ⟨⟨_, _, rfl⟩, Ex.mut ((e3.trans e4).trans e5) d0, ?_⟩⟩
    rw [upd_same, putK_new _ (val_none_of (kindD_keys _) nn)]
    unfold kindD
    rw [List.take_add_one, hk, List.map_append] <;> rfl
  · rintro σ H' ⟨⟨x, y, rfl⟩, e3, hd3⟩
    rw [paired_len h2, List.take_length] at hd3
    exact b_ret (x_var 1) fun H4 e4 => q d H4 d0 (e3.trans e4) (e4 _ _ hd3)
/-! ### column_rows_of -/
def colT (c : Col) : List V := [.str c.word, .str c.home, .str c.goal, .str (ruleS c.fall)]
def RowR (c : Col) : V → Hp → Prop := fun v H => ∃ p, v = V.ref p ∧ H p = some (.tup (colT c))
theorem stb_row (c : Col) : Stb (RowR c) := stb_tupE
structure ColsOk (ks : List Str) (cs : List Col) : Prop where
  nm : ∀ c ∈ cs, NameOk c.word ∧ c.home ∈ ks ∧ c.goal ∈ ks
  nd : (ks ++ cs.map (·.word)).Nodup
  lc : cs.length ≤ 10
  lk : ks.length ≤ 10
def spRows (K : PySem.W.Frag) : Sp := fun vs H Q _ => ∃ a d cs ks l, vs = [.ref a, .ref d] ∧ SqL K H a l ∧ PairsR RowR l cs H ∧ Rd H d (.dK (kindD ks)) ∧ ColsOk (ks.map (·.1)) cs ∧
  ∀ p vs H', H p = none → Ex H H' → H' p = some (.lst vs) → PairsR RowR vs cs H' → Q (.ref p) H'
theorem kindD_V (ks : List (Str × Bool)) : ((kindD ks).map fun kv => kV kv.1) = (ks.map (·.1)).map V.str := by
  unfold kindD
  rw [List.map_map, List.map_map] <;> rfl
theorem nodup_new {ks : List Str} {cs : List Col} {i : Nat} {c : Col} (h : (ks ++ cs.map (·.word)).Nodup) (hc : cs[i]? = some c) : c.word ∉ ks ++ (cs.take i).map (·.word) := fun hm => by
  have e2 : (ks ++ cs.map (·.word))[ks.length + i]? = some c.word := by
    rw [List.getElem?_append_right (by omega), List.getElem?_map, show ks.length + i - ks.length = i by omega, hc] <;> rfl
  obtain ⟨j, hj, ej⟩ := List.mem_iff_getElem.mp hm
  rw [List.length_append, List.length_map, List.length_take] at hj
  have e1 : (ks ++ cs.map (·.word))[j]? = some c.word := by
    rw [← ej]
    by_cases h1 : j < ks.length
    · rw [List.getElem?_append_left h1, List.getElem_append_left h1, List.getElem?_eq_getElem h1]
    · rw [List.getElem?_append_right (by omega), List.getElem_append_right (by omega), List.getElem_map, List.getElem_take, List.getElem?_map, List.getElem?_eq_getElem (by omega)] <;> rfl
  have hi : i < cs.length := (List.getElem?_eq_some_iff.mp hc).1
  have := nd_ix h e1 e2
  omega
theorem ok_rows (T : Tf K mg) : C8.Cal P w K mg base 3 "column_rows_of" (spRows K) [] := by
  refine cal_of (N := ["columns", "kinds", "found", "word", "home", "goal", "rule", "kind", "row"]) T.d_column_rows_of (by decide +kernel) (fun vs H Q E ⟨a, d, cs, ks, l, e, _⟩ => by rw [e]; rfl) fun f cdv A outer s H vs Q E hr nd h => ?_
  obtain ⟨a, d, cs, ks, l, rfl, h1, h2, h3, ⟨h4, h5, h6, h7⟩, q⟩ := h
  refine b_setN 2 (xn_l (x_lst x_anil)) fun r H1 r0 e1 hd => ?_
  refine b_forL (xp_e (x_var 0)) (pg_tup rfl (pgs_cons (pg_name (i := 3) nd rfl (.inl rfl)) (pgs_cons (pg_name (i := 4) nd rfl (.inl rfl)) (pgs_cons (pg_name (i := 5) nd rfl (.inl rfl)) (pgs_cons (pg_name (i := 6) nd rfl (.inl rfl)) pgs_nil))))) fun v H2 e2 ev => ?_
  refine ⟨a, l, fun i σ H' => (∃ x1 x2 x3 x4 x5, σ = [some (.ref a), some (.ref d), some (.ref r), x1, x2, x3, x4, x5, none]) ∧ Ex H H' ∧ ∃ vs, H' r = some (.lst vs) ∧ PairsR RowR vs (cs.take i) H', ev, ⟨⟨none, none, none, none, none, rfl⟩, e1.trans e2, [], e2 _ _ hd, .nil⟩, fun i σ H' ⟨_, e, _⟩ => ex_l e h1, ?_, ?_⟩
  · rintro i x σ H' hx ⟨⟨x1, x2, x3, x4, x5, rfl⟩, e3, vs, hv, hp⟩
    obtain ⟨c, hc, p, rfl, hpp⟩ := prd_at h2 hx
    have hm : c ∈ cs := List.mem_of_getElem? hc
    obtain ⟨n1, n2, n3⟩ := h4 c hm
    refine ⟨p, _, rfl, st_of (e3 _ _ hpp), rfl, _, _, rfl, _, _, rfl, _, _, rfl, _, _, rfl, rfl, ?_⟩
    have hi : i < cs.length := (List.getElem?_eq_some_iff.mp hc).1
    have lv : vs.length ≤ 10 := by rw [paired_len hp, List.length_take]; omega
    -- the names that are known
    refine b_expr (x_callN (ok_fresh T) hr (x_var 3) (xn_l (x_lst (x_starD (x_var 1) (ex_rd e3 h3) (x_starN (xl_of_n (g := fun c : Col => V.str c.word) (xn_lc (as := cs.take i) (f := fun _ => true) (R := fun c v _ => v = .str c.word) (Rp := fun c x => RowR c x H') 8 (src_l (x_var 2) (sq_of hv)) hp (fun _ => stb_eq) (by rw [List.length_take]; omega) fun c x H4 hc e4 ⟨p, ex, hx⟩ _ _ _ _ _ => ⟨ts_nil, fun _ => by
        subst ex
        exact xp_e (x_ixT (x_var 8) x_int (st_of (e4 _ _ hx)) rfl)⟩)) x_anil)) (by
          rw [List.length_append, List.length_append, List.length_map, List.length_map, filter_yes, List.length_take]
          unfold kindD
          rw [List.length_map]
          rw [List.length_map] at h7
          show ks.length + (min i cs.length + 0) ≤ 100000
          omega))) (y := .non) fun p H4 e4 hp4 => v_fresh n1 (xs := ks.map (·.1) ++ (cs.take i).map (·.word)) (.inl (.inl (sq_of (by rw [hp4, kindD_V, List.append_nil, filter_yes, List.map_append, List.map_map, List.map_map] <;> rfl)))) (nodup_new h5 hc)) fun H4 e4 => ?_
    -- home, goal are kinds
    refine b_forT (xp_u (xs := [.str c.home, .str c.goal]) (x_tup (x_acons (x_var 4) (x_acons (x_var 5) x_anil)))) (pg_name (i := 7) nd rfl (.inl rfl)) fun v H5 e5 ⟨t, et, ht⟩ => ?_
    refine ⟨t, _, fun j σ H' => (∃ x, σ = [some (.ref a), some (.ref d), some (.ref r), some (.str c.word), some (.str c.home), some (.str c.goal), some (.str (ruleS c.fall)), x, none]) ∧ Ex H5 H', et, ⟨⟨_, rfl⟩, Ex.refl _⟩, fun j σ H' ⟨_, e⟩ => st_of (e _ _ ht), ?_, ?_⟩
    · rintro j y σ H6 hy ⟨⟨x, rfl⟩, e6⟩
      have hk : ∃ z, y = .str z ∧ z ∈ ks.map (·.1) := by
        match j, hy with
        | 0, hy => exact ⟨_, (Option.some.inj hy).symm, n2⟩
        | 1, hy => exact ⟨_, (Option.some.inj hy).symm, n3⟩
        | j + 2, hy => simp at hy
      obtain ⟨z, rfl, hz⟩ := hk
      have e7 : Ex H H6 := ((e3.trans e4).trans e5).trans e6
      refine b_if (t_is (t_not (t_val (x_call (ok_stands T) hr (x_acons (x_var 7) (x_acons (x_var 1) x_anil)) (v_stands (.inr ⟨_, ex_rd e7 h3, kindD_keys ks⟩))))) (b' := false) (by rw [decide_eq_true hz] <;> rfl)) (fun e => nomatch e) fun _ H7 e8 => b_nil (b_nil ⟨⟨_, rfl⟩, e6.trans e8⟩)
    · rintro σ H6 ⟨⟨x, rfl⟩, e6⟩
      -- the rule
      refine b_if (t_is (t_not (t_val (x_callN (ok_stands T) hr (x_var 6) (xn_u (x_tup (x_acons (x_gl T.s_FALL) (x_acons (x_gl T.s_CLEAR) x_anil)))) (y := .bl true) fun p H7 e7 hp7 => by
          have := v_stands (K := K) (s := ruleS c.fall) (xs := ["fall", "clear"]) (a := p) (H := H7) (.inl (.inr (st_of hp7)))
          have e : decide (ruleS c.fall ∈ (["fall", "clear"] : List Str)) = true := by cases c.fall <;> decide
          rw [e] at this
          exact this))) (b' := false) rfl) (fun e => nomatch e) fun _ H7 e7 => b_nil ?_
      have e8 : Ex H' H7 := ((e4.trans e5).trans e6).trans e7
      refine b_appP (xs := vs) (e8 _ _ hv) (x_var 2) (xp_u (xs := colT c) (x_tup (x_acons (x_var 3) (x_acons (x_var 4) (x_acons (x_var 5) (x_acons (x_var 6) x_anil)))))) (by omega) fun v H8 e9 ⟨p8, ev8, hp8⟩ => b_nil ?_
      subst ev8
      have ha : H8 r = some (.lst vs) := e9 _ _ (e8 _ _ hv)
      refine ⟨⟨_, _, _, _, _, rfl⟩, Ex.mut ((e3.trans e8).trans e9) r0, _, upd_same, ?_⟩
      rw [List.take_add_one, hc]
      exact paired_snoc ((hp.ex stb_row (e8.trans e9)).up stb_row ha) ((stb_row c).up ha ⟨p8, rfl, hp8⟩)
  · rintro σ H' ⟨⟨x1, x2, x3, x4, x5, rfl⟩, e3, vs, hv, hp⟩
    rw [paired_len h2, List.take_length] at hp
    exact b_ret (x_var 2) fun H4 e4 => q r vs H4 r0 (e3.trans e4) (e4 _ _ hv) (hp.ex stb_row e4)
end
end Ls
/-! LsB2 -/
set_option Elab.async false
set_option linter.all false
set_option maxRecDepth 100000
namespace Ls
open PySem PySem.Spec PyProof.Rows L2 Lx
open Evl (Ex Ex.refl Ex.trans Ex.mut Ex.new Ev EvT EvL EvU EvA ex_l ex_t ex_rd sq_of st_of sz_of sz_lt fresh_back)
section
variable {P : Program} {w : World} {K : PySem.W.Frag} {mg : Str → Option Value} {base : Heap}
/-! ### checks_of -/
def spChecks (K : PySem.W.Frag) : Sp := fun vs H Q _ => ∃ (a b : Addr) (cs ms : List Str), vs = [.ref a, .ref b] ∧ SqL K H a (cs.map V.str) ∧ SqL K H b (ms.map V.str) ∧ (∀ c ∈ cs, c ∈ ms) ∧ ms.length ≤ 100 ∧
  ∀ p H', H p = none → Ex H H' → H' p = some (.lst ((ms.filter fun c => decide (c ∈ cs)).map V.str)) → Q (.ref p) H'
theorem ok_checks (T : Tf K mg) : C8.Cal P w K mg base 2 "checks_of" (spChecks K) [] := by
  refine cal_of (N := ["checks", "menu", "check"]) T.d_checks_of (by decide +kernel) (fun vs H Q E ⟨a, b, cs, ms, e, _⟩ => by rw [e]; rfl) fun f cdv A outer s H vs Q E hr nd h => ?_
  obtain ⟨a, b, cs, ms, rfl, h1, h2, h3, h4, q⟩ := h
  refine b_forL (xp_e (x_var 0)) (pg_name (i := 2) nd rfl (.inl rfl)) fun v H1 e1 ev => ?_
  refine ⟨a, _, fun i σ H' => (∃ x, σ = [some (.ref a), some (.ref b), x]) ∧ Ex H H', ev, ⟨⟨none, rfl⟩, e1⟩, fun i σ H' ⟨_, e⟩ => ex_l e h1, ?_, ?_⟩
  · rintro i x σ H' hx ⟨⟨y, rfl⟩, e2⟩
    rw [List.getElem?_map] at hx
    obtain ⟨c, hc, rfl⟩ := Option.map_eq_some_iff.mp hx
    have hm : c ∈ ms := h3 c (List.mem_of_getElem? hc)
    refine b_if (t_is (t_not (t_val (x_call (ok_stands T) hr (x_acons (x_var 2) (x_acons (x_var 1) x_anil)) (v_stands (.inl (.inl (ex_l e2 h2))))))) (b' := false) (by rw [decide_eq_true hm] <;> rfl)) (fun e => nomatch e) fun _ H7 e8 => b_nil (b_nil ⟨⟨_, rfl⟩, e2.trans e8⟩)
  · rintro σ H' ⟨⟨y, rfl⟩, e2⟩
    refine b_retN' (xn_l (x_lcE 2 (fun c => decide (c ∈ cs)) V.str (src_l (x_var 1) (ex_l e2 h2)) (by omega) fun c H3 hc e3 _ _ _ _ _ => ⟨ts_one (t_inNS (x_var 2) (xl_listOf T.b_list (x_var 0) (.inl (ex_l (e2.trans e3) h1)))), fun _ => x_var 2⟩)) fun p H3 hp e3 h => q p H3 (fresh_back e2 hp) (e2.trans e3) h
/-! ### menu_of -/
def chkS (w n : Str) : Str := Str.empty ++ w ++ " " ++ n
def colChecks (w : Str) : List Str := (["put", "turn", "keep", "hold", "again"] : List Str).map (chkS · w)
def kindChecks (w : Str) : List Str := (["bare", "calm", "again"] : List Str).map (chkS · w)
def menuL (ws ks : List Str) : List Str := ws.flatMap colChecks ++ ks.flatMap kindChecks ++ (["lone", "fresh"] : List Str)
def spMenu : Sp := fun vs H Q _ => ∃ (d1 d2 : Addr) (k1 k2 : List (Key × V)) (ks ws : List Str), vs = [.ref d1, .ref d2] ∧ H d1 = some (.dK k1) ∧ H d2 = some (.dK k2) ∧ k1.map (·.1) = ks.map Sum.inr ∧ k2.map (·.1) = ws.map Sum.inr ∧ (∀ s ∈ ks, s.length ≤ 8) ∧ (∀ s ∈ ws, s.length ≤ 8) ∧ ks.length ≤ 10 ∧ ws.length ≤ 10 ∧
  ∀ p H', H p = none → Ex H H' → H' p = some (.lst ((menuL ws ks).map V.str)) → Q (.ref p) H'
theorem ex_upd_of {H H' : Hp} {d : Addr} {o : HO} (e : Ex (upd H d o) H') {a : Addr} {u : HO} (h : H a = some u) (n : a ≠ d) : H' a = some u := e a u (by rw [upd_ne n]; exact h)
theorem len_app (a b : Str) : (a ++ b).length = a.length + b.length := Str.length_append a b
theorem chk_join {X : Cx} {σ : L2.St} {H : Hp} {e1 e2 : Expr} {p1 p2 p3 pos : Pos} {k : Nat} {a b : Str} (ha : XE X e1 σ H (.str a)) (hb : XE X e2 σ H (.str b)) (la : a.length ≤ 100) (lb : b.length ≤ 100) :
    XE X (.JoinedStr [.FormattedValue e1 (-1) none p1, .Constant (.str " ") k p2, .FormattedValue e2 (-1) none p3] pos) σ H (.str (chkS a b)) := by
  have l0 : Str.empty.length = 0 := rfl
  have l1 : (" " : Str).length = 1 := rfl
  exact x_join (j_fmt ha (j_str (j_fmt hb j_nil (by omega) (by rw [len_app, len_app, len_app, l0, l1]; omega)) (by rw [len_app, len_app, l0, l1]; omega)) (by omega) (by rw [len_app, l0]; omega))
theorem take_flat {α : Type} {g : α → List Str} {l : List α} {i : Nat} {x : α} (h : l[i]? = some x) : (l.take (i + 1)).flatMap g = (l.take i).flatMap g ++ g x := by
  rw [List.take_add_one, h, List.flatMap_append]
  simp
theorem flat_len {α : Type} {g : α → List Str} {n : Nat} (hg : ∀ x, (g x).length ≤ n) : ∀ l : List α, (l.flatMap g).length ≤ l.length * n
  | [] => Nat.zero_le _
  | a :: l => by
    have h1 := hg a
    have h2 := flat_len hg l
    rw [List.flatMap_cons, List.length_append, List.length_cons, Nat.add_mul]
    omega
/-- a loop over a dict's names that puts so many checks on for each -/
theorem ok_menu (T : Tf K mg) : C8.Cal P w K mg base 1 "menu_of" spMenu [] := by
  refine cal_of (N := ["kinds", "columns", "found", "word", "sort"]) T.d_menu_of (by decide +kernel) (fun vs H Q E ⟨d1, d2, k1, k2, ks, ws, e, _⟩ => by rw [e]; rfl) fun f cdv A outer s H vs Q E hr nd h => ?_
  obtain ⟨d1, d2, k1, k2, ks, ws, rfl, h1, h2, e1, e2, l1, l2, z1, z2, q⟩ := h
  refine b_setN 2 (xn_l (x_lst x_anil)) fun r H1 r0 x1 hd => ?_
  have nr1 : r ≠ d1 := fun z => by rw [z, h1] at r0; cases r0
  have nr2 : r ≠ d2 := fun z => by rw [z, h2] at r0; cases r0
  have dk : (k2.length = ws.length) := by have := congrArg List.length e2; rwa [List.length_map, List.length_map] at this
  have dk1 : (k1.length = ks.length) := by have := congrArg List.length e1; rwa [List.length_map, List.length_map] at this
  refine b_forK (x1 _ _ h2) (fun od => x_var 1) (pg_name (i := 3) nd rfl (.inr rfl)) (fun od i σ' H' => (∃ x, σ' = [some (.ref d1), some (.ref d2), some (.ref r), x, none]) ∧ Ex (upd H d2 (.frz od (.dK k2))) H' ∧ H' r = some (.lst (((ws.take i).flatMap colChecks).map V.str))) (fun od H2 x2 => ⟨⟨none, rfl⟩, (ex_lock x1).trans x2, ex_upd_of x2 hd nr2⟩) (fun od i σ' H' ⟨_, x, _⟩ => x _ _ upd_same) ?_ ?_
  · rintro od i k x σ' H' hk ⟨⟨y, rfl⟩, x3, hr3⟩
    have hw : ∃ w, ws[i]? = some w ∧ k = Sum.inr w := by
      have : (k2.map (·.1))[i]? = some k := by rw [List.getElem?_map, hk] <;> rfl
      rw [e2, List.getElem?_map] at this
      obtain ⟨w, hw, e⟩ := Option.map_eq_some_iff.mp this
      exact ⟨w, hw, e.symm⟩
    obtain ⟨w, hw, rfl⟩ := hw
    have lw := l2 w (List.mem_of_getElem? hw)
    have hi : i < ws.length := (List.getElem?_eq_some_iff.mp hw).1
    have zz := flat_len (g := colChecks) (n := 5) (fun _ => Nat.le_refl _) (ws.take i)
    rw [List.length_take] at zz
    refine b_extN (S := fun p H2 => H2 p = some (.lst ((colChecks w).map V.str))) hr3 (x_var 2) (xn_imp (xn_l (x_lcE (as := (["put", "turn", "keep", "hold", "again"] : List Str)) (rp := V.str) 4 (fun _ => true) (fun s => V.str (chkS s w)) (src_nt (x_tup (x_acons x_str (x_acons x_str (x_acons x_str (x_acons x_str (x_acons x_str x_anil))))))) (by decide) fun s H5 hs x5 _ _ _ _ _ =>
        ⟨ts_nil, fun _ => chk_join (x_var 4) (x_var 3) (by revert hs; revert s; decide) (by omega)⟩)) fun p H2 _ h => by rw [h, filter_yes] <;> rfl) (fun p H4 x4 h => ⟨_, h, by rw [List.length_map, List.length_map]; show _ + 5 ≤ 100000; omega⟩) fun p ys H4 x4 p0 h hy => b_nil ?_
    rw [h] at hy
    cases hy
    have x5 : Ex (upd H d2 (.frz od (.dK k2))) (upd H4 r (.lst ((((ws.take i).flatMap colChecks).map V.str) ++ (colChecks w).map V.str))) := Ex.mut (x3.trans x4) (by rw [upd_ne nr2]; exact r0)
    refine ⟨⟨_, rfl⟩, x5, ?_⟩
    rw [upd_same, take_flat hw, List.map_append]
  · rintro od σ' H' ⟨⟨y, rfl⟩, x3, hr3⟩
    rw [dk, List.take_length] at hr3
    have x4 := ex_unlock (H := H) h2 x3
    have hr4 : (upd H' d2 (.dK k2)) r = some (.lst ((ws.flatMap colChecks).map V.str)) := by rw [upd_ne nr2]; exact hr3
    generalize upd H' d2 (.dK k2) = H4 at x4 hr4
    refine b_forK (x4 _ _ h1) (fun od => x_var 0) (pg_name (i := 3) nd rfl (.inr rfl)) (fun od i σ' H' => (∃ x, σ' = [some (.ref d1), some (.ref d2), some (.ref r), x, none]) ∧ Ex (upd H d1 (.frz od (.dK k1))) H' ∧ H' r = some (.lst ((ws.flatMap colChecks ++ (ks.take i).flatMap kindChecks).map V.str))) (fun od H2 x2 => ⟨⟨_, rfl⟩, (ex_lock x4).trans x2, ex_upd_of x2 (by rw [List.take_zero, List.flatMap_nil, List.append_nil]; exact hr4) nr1⟩) (fun od i σ' H' ⟨_, x, _⟩ => x _ _ upd_same) ?_ ?_
    · rintro od i k x σ' H' hk ⟨⟨y, rfl⟩, x3, hr3⟩
      have hw : ∃ w, ks[i]? = some w ∧ k = Sum.inr w := by
        have : (k1.map (·.1))[i]? = some k := by rw [List.getElem?_map, hk] <;> rfl
        rw [e1, List.getElem?_map] at this
        obtain ⟨w, hw, e⟩ := Option.map_eq_some_iff.mp this
        exact ⟨w, hw, e.symm⟩
      obtain ⟨w, hw, rfl⟩ := hw
      have lw := l1 w (List.mem_of_getElem? hw)
      have zz := flat_len (g := kindChecks) (n := 3) (fun _ => Nat.le_refl _) (ks.take i)
      have zw := flat_len (g := colChecks) (n := 5) (fun _ => Nat.le_refl _) ws
      rw [List.length_take] at zz
      refine b_extN (S := fun p H2 => H2 p = some (.lst ((kindChecks w).map V.str))) hr3 (x_var 2) (xn_imp (xn_l (x_lcE (as := (["bare", "calm", "again"] : List Str)) (rp := V.str) 4 (fun _ => true) (fun s => V.str (chkS s w)) (src_nt (x_tup (x_acons x_str (x_acons x_str (x_acons x_str x_anil))))) (by decide) fun s H5 hs x5 _ _ _ _ _ =>
          ⟨ts_nil, fun _ => chk_join (x_var 4) (x_var 3) (by revert hs; revert s; decide) (by omega)⟩)) fun p H2 _ h => by rw [h, filter_yes] <;> rfl) (fun p H4 x4 h => ⟨_, h, by rw [List.length_map, List.length_append, List.length_map]; show _ + _ + 3 ≤ 100000; omega⟩) fun p ys H4 x4 p0 h hy => b_nil ?_
      rw [h] at hy
      cases hy
      have x5 : Ex (upd H d1 (.frz od (.dK k1))) (upd H4 r (.lst (((ws.flatMap colChecks ++ (ks.take i).flatMap kindChecks).map V.str) ++ (kindChecks w).map V.str))) := Ex.mut (x3.trans x4) (by rw [upd_ne nr1]; exact r0)
      refine ⟨⟨_, rfl⟩, x5, ?_⟩
      rw [upd_same, take_flat hw, ← List.append_assoc, List.map_append (l₂ := kindChecks w)]
    · rintro od σ' H' ⟨⟨y, rfl⟩, x3, hr3⟩
      rw [dk1, List.take_length] at hr3
      have x5 := ex_unlock (H := H) h1 x3
      have hr5 : (upd H' d1 (.dK k1)) r = some (.lst ((ws.flatMap colChecks ++ ks.flatMap kindChecks).map V.str)) := by rw [upd_ne nr1]; exact hr3
      generalize upd H' d1 (.dK k1) = H5 at x5 hr5
      have zz := flat_len (g := kindChecks) (n := 3) (fun _ => Nat.le_refl _) ks
      have zw := flat_len (g := colChecks) (n := 5) (fun _ => Nat.le_refl _) ws
      refine b_retN' (xn_l (x_lst (x_starS (x_var 2) (.inr (sq_of hr5)) (x_acons x_str (x_acons x_str x_anil))) (by rw [List.length_append, List.length_map, List.length_append]; show _ + _ + 2 ≤ 100000; omega))) fun p H6 hp x6 h => q p H6 (fresh_back x5 hp) (x5.trans x6) (by rw [h]; unfold menuL; simp only [List.map_append]; rfl)
end
end Ls
/-! LsB3 -/
set_option Elab.async false
set_option linter.all false
set_option maxRecDepth 100000
namespace Ls
open PySem PySem.Spec PyProof.Rows L2 Lx
open Evl (Ex Ex.refl Ex.trans Ex.mut Ex.new Ev EvT EvL EvU EvA ex_l ex_t ex_rd sq_of st_of sz_of sz_lt fresh_back)
/-- all but x stays -/
def Ch (x : Addr) (H H' : Hp) : Prop := ∀ a o, a ≠ x → H a = some o → H' a = some o
theorem Ch.refl {x : Addr} {H : Hp} : Ch x H H := fun _ _ _ h => h
theorem Ch.ex {x : Addr} {H H1 H2 : Hp} (c : Ch x H H1) (e : Ex H1 H2) : Ch x H H2 := fun a o n h => e _ _ (c a o n h)
theorem Ch.up {x : Addr} {H H1 : Hp} {o : HO} (c : Ch x H H1) : Ch x H (upd H1 x o) := fun a u n h => by rw [upd_ne n]; exact c a u n h
theorem Ch.made {x dx : Addr} {H H' : Hp} {o1 o2 : HO} (c : Ch x (upd (upd H dx o1) x o2) H') (hx : H x = none) (hd : H dx = none) : Ex H H' := fun a o h => by
  have n1 : a ≠ x := fun z => by rw [z, hx] at h; cases h
  have n2 : a ≠ dx := fun z => by rw [z, hd] at h; cases h
  exact c a o n1 (by rw [upd_ne n1, upd_ne n2]; exact h)
section
variable {P : Program} {w : World} {K : PySem.W.Frag} {mg : Str → Option Value} {base : Heap}
theorem mak_of {x qual : Str} {C : Addr} {st : Stmt} {N ps : List Str} {k : Nat} {sp : Sp} (hm : mg x = some (.ref C)) (M : ∃ f, Mk K C f) (F : MF K C "__init__" qual st ps) (S : C8.scC N ps (C8.fnScope st) = true) (len : ∀ vs H Q E, sp vs H Q E → vs.length = ps.length)
    (hbody : ∀ (f : Addr) (cdv : Value) (A : Around) (outer : List Env) (s : Shared) (H : Hp) (vs : List V) (Q : VK) (E : XK), Room k (A.deeper (envOfC qual (C8.fnScope st) s.heap.objs.size f cdv)) → N.Nodup → sp vs H Q E →
      bT (cxOf C8.CX0 P w K mg base N qual (C8.fnScope st) f cdv A outer s H E).nox (C8.fnBody st) { nx := fun _ H' => Q .non H', rt := Q } (start N vs) H) : C8.Mak P w K mg base (k + 1) x C sp [] := by
  obtain ⟨f, fd, me, D, b⟩ := F.ex
  obtain ⟨g, M⟩ := M
  have e : g = f := by
    have h1 := M.init
    rw [me.at_] at h1
    injection h1 with h1
    injection h1 with h1
    injection h1 with h1
    exact h1.symm
  subst e
  exact C8.mak0 M hm D b .nil (C8.fnScope_by S) len fun cdv A outer s H vs Q E hr h => ⟨_, pbT, hbody g cdv A outer s H vs Q E hr (C8.fnScope_by S).nd h⟩
/-! ### Column -/
def spColI (K : PySem.W.Frag) : Sp := fun vs H Q _ => ∃ x dx c, vs = [.ref x, .str c.word, .str c.home, .str c.goal, .str (ruleS c.fall)] ∧ H x = some (.ins (cC K) dx []) ∧ ∀ H', Ch x H H' → H' x = some (.ins (cC K) dx (colF c)) → Q .non H'
theorem ok_col (T : Tf K mg) : C8.Mak P w K mg base 1 "Column" (cC K) (spColI K) [] := by
  refine mak_of (N := ["self", "word", "home", "goal", "rule"]) T.g_C T.k_C T.m_C_init (by decide +kernel) (fun vs H Q E ⟨x, dx, c, e, _⟩ => by rw [e]; rfl) fun f cdv A outer s H vs Q E hr nd h => ?_
  obtain ⟨x, dx, c, rfl, hx, q⟩ := h
  refine b_fldE (x_var 1) (x_var 0) hx T.cl_C T.nC_word (by exact Nat.le_of_ble_eq_true rfl) fun H1 e1 => ?_
  refine b_fldE (x_var 2) (x_var 0) upd_same T.cl_C T.nC_home (by exact Nat.le_of_ble_eq_true rfl) fun H2 e2 => ?_
  refine b_fldE (x_var 3) (x_var 0) upd_same T.cl_C T.nC_goal (by exact Nat.le_of_ble_eq_true rfl) fun H3 e3 => ?_
  refine b_fldE (x_var 4) (x_var 0) upd_same T.cl_C T.nC_rule (by exact Nat.le_of_ble_eq_true rfl) fun H4 e4 => b_nil ?_
  exact q _ ((((((Ch.refl.ex e1).up).ex e2).up.ex e3).up.ex e4).up) upd_same
def ColR (K : PySem.W.Frag) (c : Col) : V → Hp → Prop := fun v H => ColAt K H v c
theorem m_col {H : Hp} (c : Col) : PM (cC K) (spColI K) [.str c.word, .str c.home, .str c.goal, .str (ruleS c.fall)] H (fun p H2 => ColR K c (.ref p) H2) := fun H1 e x dx hx hd n Q q =>
  ⟨x, dx, c, rfl, upd_same, fun H' ch h => q H' (ch.made hx hd) ⟨x, dx, rfl, h⟩⟩
/-! ### Book -/
structure BkOk (B : Bk) : Prop where
  nm : ∀ k ∈ B.kinds, NameOk k.1
  nd : ((B.kinds.map (·.1)) ++ B.cols.map (·.word)).Nodup
  cs : ∀ c ∈ B.cols, NameOk c.word ∧ c.home ∈ B.kinds.map (·.1) ∧ c.goal ∈ B.kinds.map (·.1)
  l1 : B.kinds.length ≤ 10
  l2 : B.cols.length ≤ 10
def Bk.kN (B : Bk) : List Str := B.kinds.map (·.1)
def Bk.cN (B : Bk) : List Str := B.cols.map (·.word)
def menuB (B : Bk) : List Str := menuL B.cN B.kN
def ownB (B : Bk) (cs : List Str) : Bk := { B with checks := (menuB B).filter fun c => decide (c ∈ cs) }
/-- what a book is made of, where it stands -/
structure BkIn (K : PySem.W.Frag) (H : Hp) (a b c : Addr) (B : Bk) (cs : List Str) : Prop where
  hk : KindsAt K H a B.kinds
  hc : ∃ l, SqL K H b l ∧ PairsR RowR l B.cols H
  hs : SqL K H c (cs.map V.str)
  ok : BkOk B
  im : ∀ s ∈ cs, s ∈ menuB B
theorem BkIn.mono {H H' : Hp} {a b c : Addr} {B : Bk} {cs : List Str} (h : BkIn K H a b c B cs) (e : Ex H H') : BkIn K H' a b c B cs := ⟨h.hk.mono e, let ⟨l, x, y⟩ := h.hc; ⟨l, ex_l e x, y.ex stb_row e⟩, ex_l e h.hs, h.ok, h.im⟩
def spBkI (K : PySem.W.Frag) : Sp := fun vs H Q _ => ∃ x dx a b c B cs H0, vs = [.ref x, .ref a, .ref b, .ref c] ∧ H0 x = none ∧ Ex H0 H ∧ H x = some (.ins (cB K) dx []) ∧ BkIn K H0 a b c B cs ∧ ∀ H' A, Ex H0 H' → H0 A.l5 = none → BkAt K H' x A (ownB B cs) → Q .non H'
theorem menu_len (B : Bk) (o : BkOk B) : (menuB B).length ≤ 100 := by
  have h1 := flat_len (g := colChecks) (n := 5) (fun _ => Nat.le_refl _) (B.cols.map (·.word))
  have h2 := flat_len (g := kindChecks) (n := 3) (fun _ => Nat.le_refl _) (B.kinds.map (·.1))
  have h3 := o.l1
  have h4 := o.l2
  rw [List.length_map] at h1 h2
  unfold menuB menuL Bk.cN Bk.kN
  rw [List.length_append, List.length_append]
  show _ + _ + 2 ≤ 100
  omega
theorem ok_book (T : Tf K mg) : C8.Mak P w K mg base 4 "Book" (cB K) (spBkI K) [] := by
  refine mak_of (N := ["self", "kinds", "columns", "checks", "row"]) T.g_B T.k_B T.m_B_init (by decide +kernel) (fun vs H Q E ⟨x, dx, a, b, c, B, cs, H0, e, _⟩ => by rw [e]; rfl) fun f cdv A outer s H vs Q E hr nd h => ?_
  obtain ⟨x, dx, a, b, c, B, cs, H0, rfl, x0, e0, hx, I, q⟩ := h
  have O := I.ok
  have ndk : (B.kinds.map (·.1)).Nodup := (List.nodup_append.mp O.nd).1
  have ndc : (B.cols.map (·.word)).Nodup := (List.nodup_append.mp O.nd).2.1
  refine b_fldN (xn_call (ok_kinds T) hr (x_acons (x_var 1) x_anil) (R := fun p H' => H' p = some (.dK (kindD B.kinds))) fun H1 e Q q => ⟨a, B.kinds, rfl, (I.mono (e0.trans e)).hk, O.nm, ndk, O.l1, q⟩) (x_var 0) hx T.cl_B T.nB_open_kinds (by exact Nat.le_of_ble_eq_true rfl) (fun p1 H1 n1 e1 r1 => ?_) fun _ _ _ e h => e _ _ h
  have m1 : p1 ≠ x := fun z => by rw [z, hx] at n1; cases n1
  generalize hG1 : upd H1 x (.ins (cB K) dx (putF "open_kinds" (.ref p1) [])) = G1
  have e1' : Ex H0 G1 := by rw [← hG1]; exact Ex.mut (e0.trans e1) x0
  have k1 : G1 p1 = some (.dK (kindD B.kinds)) := by rw [← hG1, upd_ne m1]; exact r1
  have hx1 : G1 x = some (.ins (cB K) dx [("open_kinds", .ref p1)]) := by rw [← hG1]; exact upd_same
  -- the rows
  refine b_fldN (xn_call (ok_rows T) hr (x_acons (x_var 2) (x_acons (x_fld (x_var 0) hx1 T.cl_B T.nB_open_kinds (by rfl)) x_anil)) (R := fun p H' => ∃ vs, H' p = some (.lst vs) ∧ PairsR RowR vs B.cols H') fun H2 e Q q => by
    obtain ⟨l, h1, h2⟩ := (I.mono (e1'.trans e)).hc
    exact ⟨b, p1, B.cols, B.kinds, l, rfl, h1, h2, .inl (e _ _ k1), ⟨O.cs, O.nd, O.l2, by have := O.l1; rw [List.length_map]; omega⟩, fun p vs H' hp e' h1 h2 => q p H' hp e' ⟨vs, h1, h2⟩⟩) (x_var 0) hx1 T.cl_B T.nB_column_rows (by exact Nat.le_of_ble_eq_true rfl) (fun p2 H2 n2 e2 r2 => ?_) fun _ _ _ e ⟨vs, h1, h2⟩ => ⟨vs, e _ _ h1, h2.ex stb_row e⟩
  obtain ⟨vs, r2, r2'⟩ := r2
  have m2 : p2 ≠ x := fun z => by rw [z, hx1] at n2; cases n2
  generalize hG2 : upd H2 x (.ins (cB K) dx (putF "column_rows" (.ref p2) [("open_kinds", .ref p1)])) = G2
  have e2' : Ex H0 G2 := by rw [← hG2]; exact Ex.mut (e1'.trans e2) x0
  have hx2 : G2 x = some (.ins (cB K) dx [("open_kinds", .ref p1), ("column_rows", .ref p2)]) := by rw [← hG2]; exact upd_same
  have k2 : G2 p1 = some (.dK (kindD B.kinds)) := by rw [← hG2, upd_ne m1]; exact e2 _ _ k1
  have s2 : G2 p2 = some (.lst vs) := by rw [← hG2, upd_ne m2]; exact r2
  have t2 : PairsR RowR vs B.cols G2 := Paired.mapP r2' fun v c ⟨p, ep, hp⟩ => ⟨p, ep, by rw [← hG2, upd_ne (fun z => by rw [z, e2 _ _ hx1] at hp; cases hp)]; exact hp⟩
  -- the table
  refine b_fldN (xn_dc (Rp := fun c v => RowR c v G2) (RR := ColR K) 4 (fun c : Col => c.word) (x_fld (x_var 0) hx2 T.cl_B T.nB_column_rows (by rfl)) (sq_of s2) t2 (by have := O.l2; omega) ndc (fun a v H H' e ⟨p, dx, h1, h2⟩ => ⟨p, dx, h1, e _ _ h2⟩)
    (fun a v H D acc acc' hD ⟨p, dx, h1, h2⟩ => ⟨p, dx, h1, by rw [upd_ne (fun z => by rw [z, hD] at h2; cases h2)]; exact h2⟩)
    fun c v H' hc e ⟨p, ep, hp⟩ _ _ _ _ _ => ?_) (x_var 0) hx2 T.cl_B T.nB_column_table (by exact Nat.le_of_ble_eq_true rfl) (fun p3 H3 n3 e3 r3 => ?_) fun _ _ _ e ⟨vs, h1, h2⟩ => ⟨vs, e _ _ h1, Paired.mapP h2 fun v c ⟨p, dx, h1, h2⟩ => ⟨p, dx, h1, e _ _ h2⟩⟩
  · subst ep
    have ht := st_of (K := K) (e _ _ hp)
    refine ⟨x_ixT (x_var 4) x_int ht rfl, xp_imp (xp_n (xn_mk (ok_col T) hr (x_acons (x_ixT (x_var 4) x_int ht rfl) (x_acons (x_ixT (x_var 4) x_int ht rfl) (x_acons (x_ixT (x_var 4) x_int ht rfl) (x_acons (x_ixT (x_var 4) x_int ht rfl) x_anil)))) (m_col c))) fun v H2 _ ⟨p, ev, h⟩ => ?_⟩
    subst ev
    exact h
  obtain ⟨ws, r3, r3'⟩ := r3
  have m3 : p3 ≠ x := fun z => by rw [z, hx2] at n3; cases n3
  generalize hG3 : upd H3 x (.ins (cB K) dx (putF "column_table" (.ref p3) [("open_kinds", .ref p1), ("column_rows", .ref p2)])) = G3
  have e3' : Ex H0 G3 := by rw [← hG3]; exact Ex.mut (e2'.trans e3) x0
  have hx3 : G3 x = some (.ins (cB K) dx [("open_kinds", .ref p1), ("column_rows", .ref p2), ("column_table", .ref p3)]) := by rw [← hG3]; exact upd_same
  have k3 : G3 p1 = some (.dK (kindD B.kinds)) := by rw [← hG3, upd_ne m1]; exact e3 _ _ k2
  have s3 : G3 p3 = some (.dK ((B.cols.zip ws).map fun q => (Sum.inr q.1.word, q.2))) := by rw [← hG3, upd_ne m3]; exact r3
  have t3 : PairsR (ColR K) ws B.cols G3 := Paired.mapP r3' fun v c ⟨p, dx', ep, hp⟩ => ⟨p, dx', ep, by
    rw [← hG3, upd_ne (fun z => by
      rw [z, e3 _ _ hx2] at hp
      injection hp with hp
      injection hp with _ _ hp
      cases hp)]
    exact hp⟩
  have wl : ws.length = B.cols.length := paired_len t3
  -- the menu
  refine b_fldN (xn_call (ok_menu T) hr (x_acons (x_fld (x_var 0) hx3 T.cl_B T.nB_open_kinds (by rfl)) (x_acons (x_fld (x_var 0) hx3 T.cl_B T.nB_column_table (by rfl)) x_anil)) (R := fun p H' => H' p = some (.lst ((menuB B).map V.str))) fun H4 e Q q =>
    ⟨p1, p3, _, _, B.kN, B.cN, rfl, e _ _ k3, e _ _ s3, kindD_keys _, by
      unfold Bk.cN
      rw [List.map_map, List.map_map]
      have : (B.cols.zip ws).map (fun q => q.1) = B.cols := by rw [← List.unzip_fst, List.unzip_zip wl.symm]
      conv => rhs; rw [← this, List.map_map]
      rfl, fun s hs => by
        obtain ⟨k, hk, rfl⟩ := List.mem_map.mp hs
        exact (O.nm k hk).hi, fun s hs => by
        obtain ⟨k, hk, rfl⟩ := List.mem_map.mp hs
        exact (O.cs k hk).1.hi, by unfold Bk.kN; rw [List.length_map]; exact O.l1, by unfold Bk.cN; rw [List.length_map]; exact O.l2, q⟩) (x_var 0) hx3 T.cl_B T.nB_all_checks (by exact Nat.le_of_ble_eq_true rfl) (fun p4 H4 n4 e4 r4 => ?_) fun _ _ _ e h => e _ _ h
  have m4 : p4 ≠ x := fun z => by rw [z, hx3] at n4; cases n4
  generalize hG4 : upd H4 x (.ins (cB K) dx (putF "all_checks" (.ref p4) [("open_kinds", .ref p1), ("column_rows", .ref p2), ("column_table", .ref p3)])) = G4
  have e4' : Ex H0 G4 := by rw [← hG4]; exact Ex.mut (e3'.trans e4) x0
  have hx4 : G4 x = some (.ins (cB K) dx [("open_kinds", .ref p1), ("column_rows", .ref p2), ("column_table", .ref p3), ("all_checks", .ref p4)]) := by rw [← hG4]; exact upd_same
  have up4 : ∀ a o, a ≠ x → G3 a = some o → G4 a = some o := fun a o n h => by rw [← hG4, upd_ne n]; exact e4 _ _ h
  have s4 : G4 p4 = some (.lst ((menuB B).map V.str)) := by rw [← hG4, upd_ne m4]; exact r4
  -- the checks
  refine b_fldN (xn_call (ok_checks T) hr (x_acons (x_var 3) (x_acons (x_fld (x_var 0) hx4 T.cl_B T.nB_all_checks (by rfl)) x_anil)) (R := fun p H' => H' p = some (.lst ((ownB B cs).checks.map V.str))) fun H5 e Q q =>
    ⟨c, p4, cs, menuB B, rfl, (I.mono (e4'.trans e)).hs, sq_of (e _ _ s4), I.im, menu_len B O, q⟩) (x_var 0) hx4 T.cl_B T.nB_own_checks (by exact Nat.le_of_ble_eq_true rfl) (fun p5 H5 n5 e5 r5 => b_nil ?_) fun _ _ _ e h => e _ _ h
  have m5 : p5 ≠ x := fun z => by rw [z, hx4] at n5; cases n5
  have up5 : ∀ a o, a ≠ x → G4 a = some o → (upd H5 x (.ins (cB K) dx (bkF p1 p2 p3 p4 p5))) a = some o := fun a o n h => by rw [upd_ne n]; exact e5 _ _ h
  refine q (upd H5 x (.ins (cB K) dx (bkF p1 p2 p3 p4 p5))) ⟨dx, p1, p2, p3, p4, p5, ws⟩ (Ex.mut (e4'.trans e5) x0) (fresh_back e4' n5) ⟨upd_same, up5 _ _ m1 (up4 _ _ m1 k3), up5 _ _ m3 (up4 _ _ m3 s3), ?_, sq_of (by rw [upd_ne m5]; exact r5)⟩
  exact Paired.mapP t3 fun v c ⟨p, dx', ep, hp⟩ => by
    have np : p ≠ x := fun z => by
      rw [z, hx3] at hp
      injection hp with hp
      injection hp with _ _ hp
      cases hp
    exact ⟨p, dx', ep, up5 _ _ np (up4 _ _ np hp)⟩
theorem m_book {H : Hp} {a b c : Addr} {B : Bk} {cs : List Str} (h : BkIn K H a b c B cs) : PM (cB K) (spBkI K) [.ref a, .ref b, .ref c] H (fun p H2 => ∃ A, H A.l5 = none ∧ BkAt K H2 p A (ownB B cs)) := fun H1 e x dx hx hd n Q q =>
  ⟨x, dx, a, b, c, B, cs, H1, rfl, hx, fun u o hu => by
    have n1 : u ≠ x := fun z => by rw [z, hx] at hu; cases hu
    have n2 : u ≠ dx := fun z => by rw [z, hd] at hu; cases hu
    rw [upd_ne n1, upd_ne n2]
    exact hu, upd_same, h.mono e, fun H' A e' z h' => q H' e' ⟨A, fresh_back e z, h'⟩⟩
end
end Ls
/-! LsB4 -/
set_option Elab.async false
set_option linter.all false
set_option maxRecDepth 100000
namespace Ls
open PySem PySem.Spec PyProof.Rows L2 Lx
open Evl (Ex Ex.refl Ex.trans Ex.mut Ex.new Ev EvT EvL EvU EvA ex_l ex_t ex_rd sq_of st_of sz_of sz_lt fresh_back)
theorem nd_le {α : Type} [DecidableEq α] : ∀ {l m : List α}, l.Nodup → (∀ x ∈ l, x ∈ m) → l.length ≤ m.length
  | [], _, _, _ => Nat.zero_le _
  | a :: l, m, h, s => by
    rw [List.nodup_cons] at h
    have ha : a ∈ m := s a (List.mem_cons_self ..)
    have := nd_le (m := m.erase a) h.2 fun x hx => (List.mem_erase_of_ne (fun e : x = a => h.1 (by rw [← e]; exact hx))).mpr (s x (List.mem_cons_of_mem _ hx))
    rw [List.length_erase_of_mem ha] at this
    have : 0 < m.length := List.length_pos_of_mem ha
    rw [List.length_cons]
    omega
theorem stb_col (K : PySem.W.Frag) (c : Col) : Stb (ColR K c) :=
  ⟨fun e ⟨p, dx, h1, h2⟩ => ⟨p, dx, h1, e _ _ h2⟩, fun {v H D acc acc'} h ⟨p, dx, h1, h2⟩ => ⟨p, dx, h1, by rw [upd_ne (fun z => by subst z; rw [h] at h2; cases h2)]; exact h2⟩,
   fun {v H d od u} h ⟨p, dx, h1, h2⟩ => ⟨p, dx, h1, by rw [upd_ne (fun z => by subst z; rw [h] at h2; cases h2)]; exact h2⟩⟩
section
variable {P : Program} {w : World} {K : PySem.W.Frag} {mg : Str → Option Value} {base : Heap}
/-! ### a book, seen while one of its dicts is locked -/
structure BkLk (K : PySem.W.Frag) (H : Hp) (b : Addr) (a : BkA) (B : Bk) : Prop where
  hb : H b = some (.ins (cB K) a.dx (bkF a.d1 a.l2 a.d3 a.l4 a.l5))
  hk : Rd H a.d1 (.dK (kindD B.kinds))
  hc : Rd H a.d3 (.dK ((B.cols.zip a.vs).map fun p => (Sum.inr p.1.word, p.2)))
  hv : Paired (ColAt K H) a.vs B.cols
  ho : SqL K H a.l5 (B.checks.map V.str)
theorem BkLk.mono {H H' : Hp} {b : Addr} {a : BkA} {B : Bk} (h : BkLk K H b a B) (e : Ex H H') : BkLk K H' b a B :=
  ⟨e _ _ h.hb, ex_rd e h.hk, ex_rd e h.hc, Paired.mapP h.hv fun v c ⟨p, dx, h1, h2⟩ => ⟨p, dx, h1, e _ _ h2⟩, ex_l e h.ho⟩
theorem BkAt.lk {H : Hp} {b : Addr} {a : BkA} {B : Bk} (h : BkAt K H b a B) : BkLk K H b a B := ⟨h.hb, .inl h.hk, .inl h.hc, h.hv, h.ho⟩
theorem rd_lock {H : Hp} {d a : Addr} {u v : HO} {od : Obj} (hd : H d = some u) (h : H a = some v) : Rd (upd H d (.frz od u)) a v := by
  by_cases e : a = d
  · subst e
    rw [hd] at h
    cases h
    exact .inr ⟨od, upd_same⟩
  · exact .inl (by rw [upd_ne e]; exact h)
theorem l_lock {H : Hp} {d a : Addr} {kvs : List (Key × V)} {od : Obj} {xs : List V} (hd : H d = some (.dK kvs)) (h : SqL K H a xs) : SqL K (upd H d (.frz od (.dK kvs))) a xs := by
  rcases h with (h | ⟨o, h⟩) | h
  · exact .inl (.inl (by rw [upd_ne (fun z => by subst z; rw [hd] at h; cases h)]; exact h))
  · exact .inl (.inr ⟨o, by rw [upd_ne (fun z => by subst z; rw [hd] at h; cases h)]; exact h⟩)
  · exact .inr h
theorem col_lock {H : Hp} {d : Addr} {v : V} {c : Col} {kvs : List (Key × V)} {od : Obj} (hd : H d = some (.dK kvs)) (h : ColAt K H v c) : ColAt K (upd H d (.frz od (.dK kvs))) v c := let ⟨p, dx, h1, h2⟩ := h; ⟨p, dx, h1, by rw [upd_ne (fun z => by rw [z, hd] at h2; cases h2)]; exact h2⟩
theorem BkAt.lock {H : Hp} {b d : Addr} {a : BkA} {B : Bk} {kvs : List (Key × V)} {od : Obj} (h : BkAt K H b a B) (hd : H d = some (.dK kvs)) : BkLk K (upd H d (.frz od (.dK kvs))) b a B :=
  ⟨by rw [upd_ne (fun z => by have := h.hb; rw [z, hd] at this; cases this)]; exact h.hb, rd_lock hd h.hk, rd_lock hd h.hc, Paired.mapP h.hv fun v c ⟨p, dx, h1, h2⟩ => ⟨p, dx, h1, by rw [upd_ne (fun z => by rw [z, hd] at h2; cases h2)]; exact h2⟩, l_lock hd h.ho⟩
theorem colD_vals (B : Bk) (vs : List V) (e : vs.length = B.cols.length) : ((B.cols.zip vs).map fun p => ((Sum.inr p.1.word : Key), p.2)).map (·.2) = vs := by
  rw [List.map_map]
  have : (B.cols.zip vs).map (fun q => q.2) = vs := by rw [← List.unzip_snd, List.unzip_zip e.symm]
  conv => rhs; rw [← this]
  rfl
theorem colD_keys (B : Bk) (vs : List V) (e : vs.length = B.cols.length) : ((B.cols.zip vs).map fun p => ((Sum.inr p.1.word : Key), p.2)).map (·.1) = B.cN.map Sum.inr := by
  unfold Bk.cN
  rw [List.map_map, List.map_map]
  have : (B.cols.zip vs).map (fun q => q.1) = B.cols := by rw [← List.unzip_fst, List.unzip_zip e.symm]
  conv => rhs; rw [← this, List.map_map]
  rfl
/-! ### columns_of -/
def spCols (K : PySem.W.Frag) : Sp := fun vs H Q _ => ∃ b s a B, vs = [.ref b, .str s] ∧ BkAt K H b a B ∧ BkOk B ∧ s ∈ B.kN ∧ ∀ p H', H p = none → Ex H H' → H' p = some (.lst ((B.cols.filter fun c => decide (c.home = s)).map fun c => V.str c.word)) → Q (.ref p) H'
theorem ok_columns_of (T : Tf K mg) : C8.Met P w K mg base 2 (cB K) "columns_of" (spCols K) [] := by
  refine met_of (N := ["self", "kind", "column"]) T.m_B_columns_of (by decide +kernel) (fun vs H Q E ⟨b, s, a, B, e, _⟩ => by rw [e]; rfl) fun f cdv A outer s H vs Q E hr nd h => ?_
  obtain ⟨b, s, a, B, rfl, hB, O, hs, q⟩ := h
  refine b_if (t_is (t_not (t_val (x_call (ok_stands T) hr (x_acons (x_var 1) (x_acons (x_fld (x_var 0) hB.hb T.cl_B T.nB_open_kinds bkF_1) x_anil)) (v_stands (.inr ⟨_, .inl hB.hk, kindD_keys _⟩))))) (b' := false) (by show (!decide (s ∈ B.kN)) = false; rw [decide_eq_true hs] <;> rfl)) (fun e => nomatch e) fun _ H1 e1 => b_nil ?_
  have hB := hB.mono e1
  have wl := paired_len hB.hv
  refine b_retN' (xn_imp (xn_lcL (as := B.cols) (f := fun c : Col => decide (c.home = s)) (R := fun c v _ => v = .str c.word) (Rp := fun c x => ColR K c x H1) 2 hB.hc trivial (fun od => src_v (x_fld (x_var 0) (hB.lock hB.hc).hb T.cl_B T.nB_column_table bkF_3) upd_same) (by rw [colD_vals B a.vs wl]; exact hB.hv) (fun _ => stb_eq) (by have := O.l2; omega) fun od c v H2 hc e2 r _ _ _ _ _ => ?_) fun p H2 _ ⟨vs, h1, h2⟩ => by rw [h1, paired_eq h2]) fun p H2 hp e2 h => q p H2 (fresh_back e1 hp) (e1.trans e2) h
  obtain ⟨p, dx, rfl, hp⟩ := col_lock (od := od) hB.hc r
  have hp := e2 _ _ hp
  refine ⟨ts_one (t_is (t_eq (x_fld (x_var 2) hp T.cl_C T.nC_home (colF_home c)) (x_var 1)) (by simp)), fun _ => xp_e (x_fld (x_var 2) hp T.cl_C T.nC_word (colF_word c))⟩
theorem val_at {kvs : List (Key × V)} {k : Key} {v : V} (h : (k, v) ∈ kvs) (nd : (kvs.map (·.1)).Nodup) : valV kvs k = some v := by
  induction kvs with
  | nil => cases h
  | cons kv kvs ih =>
    rw [List.map_cons, List.nodup_cons] at nd
    unfold valV at ih ⊢
    rw [List.find?_cons]
    rcases List.mem_cons.mp h with h | h
    · subst h
      simp
    · have ne : ¬ kv.1 = k := fun e => nd.1 (List.mem_map.mpr ⟨_, h, e.symm⟩)
      rw [decide_eq_false ne]
      exact ih h nd.2
theorem kind_nd {B : Bk} (O : BkOk B) : ((kindD B.kinds).map (·.1)).Nodup := by
  rw [kindD_keys]
  exact List.Pairwise.map _ (fun _ _ h e => h (Sum.inr.inj e)) (List.nodup_append.mp O.nd).1
theorem val_kind {B : Bk} {k : Str × Bool} (O : BkOk B) (h : k ∈ B.kinds) : valV (kindD B.kinds) (Sum.inr k.1 : Key) = some (.bl k.2) := val_at (List.mem_map.mpr ⟨k, h, rfl⟩) (kind_nd O)
/-! ### markable -/
/-- a row of the kind can come to be marked -/
inductive Mkb (B : Bk) : Str → Prop
  | op {k : Str} (h : (k, true) ∈ B.kinds) : Mkb B k
  | fl {c : Col} (h : c ∈ B.cols) (f : c.fall = true) (m : Mkb B c.goal) : Mkb B c.home
def spMk (K : PySem.W.Frag) : Sp := fun vs H Q _ => ∃ b a B, vs = [.ref b] ∧ BkAt K H b a B ∧ BkOk B ∧ ∀ (p : Addr) (H' : Hp) (xs : List Str), H p = none → Ex H H' → H' p = some (.lst (xs.map V.str)) → (∀ k, k ∈ xs ↔ Mkb B k) → Q (.ref p) H'
theorem ok_markable (T : Tf K mg) : C8.Met P w K mg base 2 (cB K) "markable" (spMk K) [] := by
  refine met_of (N := ["self", "found", "more", "falling", "below", "kind", "column"]) T.m_B_markable (by decide +kernel) (fun vs H Q E ⟨b, a, B, e, _⟩ => by rw [e]; rfl) fun f cdv A outer s H vs Q E hr nd h => ?_
  obtain ⟨b, a, B, rfl, hB, O, q⟩ := h
  have wl := paired_len hB.hv
  have lk : B.kinds.length ≤ 10 := O.l1
  have lc : B.cols.length ≤ 10 := O.l2
  have hom : ∀ k, Mkb B k → k ∈ B.kN := fun k m => by
    cases m with
    | op h => exact List.mem_map.mpr ⟨_, h, rfl⟩
    | fl h f m => exact (O.cs _ h).2.1
  have kk : ∀ od : Obj, ((kindD B.kinds).map fun p => kV p.1) = B.kinds.map fun k => V.str k.1 := fun _ => by unfold kindD; rw [List.map_map] <;> rfl
  refine b_setN 1 (xl_lcL (as := B.kinds) (rp := fun k => V.str k.1) (g := fun k => V.str k.1) (fun k => k.2) 5 hB.hk trivial (fun od => src_is (src_k (x_fld (x_var 0) (hB.lock hB.hk).hb T.cl_B T.nB_open_kinds bkF_1) upd_same) (kk od)) (by omega) (fun od k H2 hk e2 _ _ _ _ _ => ?_)) fun p H1 p0 e1 h1 => ?_
  · have hL := (hB.lock hB.hk (od := od)).mono e2
    exact ⟨ts_one (t_val (x_dget hr (x_fld (x_var 0) hL.hb T.cl_B T.nB_open_kinds bkF_1) (x_var 5) (by have g := get_s (k := k.1) hL.hk; rw [val_kind O hk] at g; exact g))), fun _ => x_var 5⟩
  refine b_set 2 (x_var 1) fun H2 e2 => ?_
  let n := B.kN.length
  refine b_while (fun m σ H' => ∃ pf pm x y, ∃ F M : List Str, σ = [some (.ref b), some (.ref pf), some (.ref pm), x, y, none, none] ∧ Ex H H' ∧ H' pf = some (.lst (F.map V.str)) ∧ H' pm = some (.lst (M.map V.str)) ∧ (∀ k ∈ F, Mkb B k) ∧ (∀ k, (k, true) ∈ B.kinds → k ∈ F) ∧ (M = [] → ∀ c ∈ B.cols, c.fall = true → c.goal ∈ F → c.home ∈ F) ∧ F.Nodup ∧ M.length ≤ 10 ∧ m = 2 * (n - F.length) + (if M = [] then 0 else 1)) (2 * (n - ((B.kinds.filter (·.2)).map (·.1)).length) + (if ((B.kinds.filter (·.2)).map (·.1)) = [] then 0 else 1)) ?_ ?_
  · refine ⟨p, p, none, none, (B.kinds.filter (·.2)).map (·.1), (B.kinds.filter (·.2)).map (·.1), rfl, e1.trans e2, by rw [e2 _ _ h1, List.map_map] <;> rfl, by rw [e2 _ _ h1, List.map_map] <;> rfl, fun k hk => ?_, fun k hk => List.mem_map.mpr ⟨(k, true), List.mem_filter.mpr ⟨hk, rfl⟩, rfl⟩, fun e c hc hf hg => ?_, ?_, ?_, rfl⟩
    · obtain ⟨⟨k1, k2⟩, h, rfl⟩ := List.mem_map.mp hk
      obtain ⟨h1, h2⟩ := List.mem_filter.mp h
      cases h2
      exact .op h1
    · rw [e] at hg
      cases hg
    · exact ((List.nodup_append.mp O.nd).1).sublist (List.Sublist.map _ List.filter_sublist)
    · rw [List.length_map]
      exact Nat.le_trans (List.length_filter_le _ _) lk
  rintro m σ H' ⟨pf, pm, x, y, F, M, rfl, e3, hf, hm, hF, hO, hC, hN, hL, rfl⟩
  have hB3 := hB.mono e3
  have sub : ∀ k ∈ F, k ∈ B.kN := fun k hk => hom k (hF k hk)
  have fl : F.length ≤ n := nd_le hN sub
  have n10 : n ≤ 10 := by show B.kN.length ≤ 10; unfold Bk.kN; rw [List.length_map]; exact lk
  refine ⟨decide (M ≠ []), t_is (t_gt (x_lenL T.b_len (x_var 2) (sq_of hm)) x_int) ?_, fun hb H4 e4 => ?_, fun hb H4 e4 => ?_⟩
  · rw [List.length_map]
    cases M with
    | nil => rfl
    | cons a l => rw [decide_eq_true (show (0 : Int) < ((a :: l).length : Int) by rw [List.length_cons]; omega), decide_eq_true (List.cons_ne_nil _ _)]
  · have hM : M ≠ [] := of_decide_eq_true hb
    have hB4 := hB3.mono e4
    have hf4 := e4 _ _ hf
    refine b_setLcL (as := B.cols) (f := fun c => c.fall) (R := ColR K) (Rp := fun c x => ColR K c x H4) 3 6 hB4.hc trivial (fun od => src_v (x_fld (x_var 0) (hB4.lock hB4.hc).hb T.cl_B T.nB_column_table bkF_3) upd_same) (by rw [colD_vals B a.vs wl]; exact hB4.hv) (stb_col K) (by omega) (fun od c v H5 hc e5 r _ _ _ _ _ => ?_) fun p5 vs5 H5 p50 e5 h5 r5 => ?_
    · obtain ⟨p, dx, rfl, hp⟩ := col_lock (od := od) hB4.hc r
      have hp := e5 _ _ hp
      refine ⟨ts_one (t_is (t_eq (x_fld (x_var 6) hp T.cl_C T.nC_rule (colF_rule c)) (x_gl T.s_FALL)) (by cases c.fall <;> rfl)), fun _ => xp_imp (xp_e (x_var 6)) fun v H6 e6 ev => by rw [ev]; exact ⟨p, dx, rfl, e6 _ _ hp⟩⟩
    have hB5 := hB4.mono e5
    have hf5 := e5 _ _ hf4
    refine b_setN 4 (R := fun p H' => H' p = some (.lst (((B.cols.filter fun c : Col => c.fall).filter fun c : Col => decide (c.goal ∈ F)).map fun c : Col => V.str c.home))) (xn_imp (xn_lc (as := B.cols.filter fun c : Col => c.fall) (f := fun c => decide (c.goal ∈ F)) (R := fun c v _ => v = .str c.home) (Rp := fun c x => ColR K c x H5) 6 (src_l (x_var 3) (sq_of h5)) r5 (fun _ => stb_eq) (Nat.le_trans (List.length_filter_le _ _) (by omega)) fun c v H6 hc e6 ⟨p, dx, ev, hp⟩ _ _ _ _ _ => ?_) fun p H6 _ ⟨vs, h1, h2⟩ => by rw [h1, paired_eq h2]) fun p6 H6 p60 e6 h6 => ?_
    · subst ev
      have hp := e6 _ _ hp
      exact ⟨ts_one (t_inS (x_fld (x_var 6) hp T.cl_C T.nC_goal (colF_goal c)) (x_var 1) (sq_of (e6 _ _ hf5))), fun _ => xp_e (x_fld (x_var 6) hp T.cl_C T.nC_home (colF_home c))⟩
    have hB6 := hB5.mono e6
    have hf6 := e6 _ _ hf5
    generalize hBl : (((B.cols.filter fun c : Col => c.fall).filter fun c : Col => decide (c.goal ∈ F)).map fun c : Col => c.home) = below
    have h6' : H6 p6 = some (.lst (below.map V.str)) := by rw [h6, ← hBl, List.map_map] <;> rfl
    refine b_setLcL (as := B.kinds) (f := fun k => decide (k.1 ∈ below) && !decide (k.1 ∈ F)) (R := fun k v _ => v = .str k.1) (Rp := fun k x => x = V.str k.1) 2 5 hB6.hk trivial (fun od => src_is (src_k (x_fld (x_var 0) (hB6.lock hB6.hk).hb T.cl_B T.nB_open_kinds bkF_1) upd_same) (kk od)) (paired_of_eq B.kinds) (fun _ => stb_eq) (by omega) (fun od k v H7 hk e7 r _ _ _ _ _ => ?_) fun p7 vs7 H7 p70 e7 h7 r7 => ?_
    · subst r
      have g1 : SqL K H7 p6 (below.map V.str) := ex_l e7 (l_lock hB6.hk (sq_of h6'))
      have g2 : SqL K H7 pf (F.map V.str) := ex_l e7 (l_lock hB6.hk (sq_of hf6))
      exact ⟨ts_one (t_w (w_and (t_inS (x_var 5) (x_var 4) g1) fun _ => w_and1 (t_niS (x_var 5) (x_var 1) g2))), fun _ => xp_e (x_var 5)⟩
    generalize hM' : ((B.kinds.filter fun k => decide (k.1 ∈ below) && !decide (k.1 ∈ F)).map fun k => k.1) = M'
    have h7' : H7 p7 = some (.lst (M'.map V.str)) := by rw [h7, paired_eq r7, ← hM', List.map_map] <;> rfl
    have hf7 := e7 _ _ hf6
    have lM : M'.length ≤ 10 := by rw [← hM', List.length_map]; exact Nat.le_trans (List.length_filter_le _ _) lk
    have e8 : Ex H H7 := (((e3.trans e4).trans e5).trans e6).trans e7
    have mem' : ∀ k, k ∈ M' ↔ k ∈ B.kN ∧ k ∈ below ∧ k ∉ F := fun k => by
      rw [← hM', List.mem_map]
      unfold Bk.kN
      constructor
      · rintro ⟨z, hz, rfl⟩
        obtain ⟨z1, z2⟩ := List.mem_filter.mp hz
        rw [Bool.and_eq_true, decide_eq_true_eq, Bool.not_eq_true', decide_eq_false_iff_not] at z2
        exact ⟨List.mem_map.mpr ⟨z, z1, rfl⟩, z2⟩
      · rintro ⟨z1, z2, z3⟩
        obtain ⟨z, hz, rfl⟩ := List.mem_map.mp z1
        exact ⟨z, List.mem_filter.mpr ⟨hz, by rw [decide_eq_true z2, decide_eq_false z3] <;> rfl⟩, rfl⟩
    have memb : ∀ k, k ∈ below ↔ ∃ c ∈ B.cols, c.fall = true ∧ c.goal ∈ F ∧ c.home = k := fun k => by
      rw [← hBl, List.mem_map]
      constructor
      · rintro ⟨c, hc, rfl⟩
        obtain ⟨hc, g⟩ := List.mem_filter.mp hc
        obtain ⟨hc, f⟩ := List.mem_filter.mp hc
        exact ⟨c, hc, f, of_decide_eq_true g, rfl⟩
      · rintro ⟨c, hc, f, g, rfl⟩
        exact ⟨c, List.mem_filter.mpr ⟨List.mem_filter.mpr ⟨hc, f⟩, decide_eq_true g⟩, rfl⟩
    have ndM : M'.Nodup := by
      rw [← hM']
      exact ((List.nodup_append.mp O.nd).1).sublist (List.Sublist.map _ List.filter_sublist)
    have ndF : (F ++ M').Nodup := List.nodup_append.mpr ⟨hN, ndM, fun k hk k' hk' e => ((mem' k').mp hk').2.2 (e ▸ hk)⟩
    have hF' : ∀ k ∈ F ++ M', Mkb B k := fun k hk => by
      rcases List.mem_append.mp hk with hk | hk
      · exact hF k hk
      · obtain ⟨c, hc, f, g, rfl⟩ := (memb k).mp ((mem' k).mp hk).2.1
        exact .fl hc f (hF _ g)
    have fl' : (F ++ M').length ≤ n := nd_le ndF fun k hk => hom k (hF' k hk)
    refine b_setN 1 (xn_cat (x_var 1) (x_var 2) hf7 h7' (by rw [List.length_map, List.length_map]; omega)) fun p8 H8 p80 e9 h8 => b_nil ?_
    refine ⟨2 * (n - (F ++ M').length) + (if M' = [] then 0 else 1), ?_, ⟨p8, p7, _, _, F ++ M', M', rfl, e8.trans e9, by rw [h8, List.map_append], e9 _ _ h7', hF', fun k hk => List.mem_append_left _ (hO k hk), fun eM c hc f g => ?_, ndF, lM, rfl⟩⟩
    · rw [if_neg hM]
      by_cases hE : M' = []
      · rw [hE, if_pos rfl, List.append_nil]
        omega
      · have : 0 < M'.length := List.length_pos_iff.mpr hE
        rw [if_neg hE]
        rw [List.length_append] at fl' ⊢
        omega
    · rw [eM, List.append_nil] at g ⊢
      by_cases hh : c.home ∈ F
      · exact hh
      · have := (mem' c.home).mpr ⟨(O.cs c hc).2.1, (memb _).mpr ⟨c, hc, f, g, rfl⟩, hh⟩
        rw [eM] at this
        cases this
  · have hM : M = [] := by
      by_cases z : M = []
      · exact z
      · rw [decide_eq_true z] at hb; cases hb
    have hB4 := hB3.mono e4
    have hf4 := e4 _ _ hf
    refine b_retN' (xl_lcL (as := B.kinds) (rp := fun k => V.str k.1) (g := fun k => V.str k.1) (fun k => decide (k.1 ∈ F)) 5 hB4.hk trivial (fun od => src_is (src_k (x_fld (x_var 0) (hB4.lock hB4.hk).hb T.cl_B T.nB_open_kinds bkF_1) upd_same) (kk od)) (by omega) (fun od k H5 hk e5 _ _ _ _ _ => ⟨ts_one (t_inS (x_var 5) (x_var 1) (ex_l e5 (l_lock hB4.hk (sq_of hf4)))), fun _ => x_var 5⟩)) fun p5 H5 p50 e5 h5 => ?_
    refine q p5 H5 ((B.kinds.filter fun k => decide (k.1 ∈ F)).map fun k => k.1) (fresh_back (e3.trans e4) p50) ((e3.trans e4).trans e5) (by rw [h5, List.map_map] <;> rfl) fun k => ?_
    constructor
    · intro hk
      obtain ⟨z, hz, rfl⟩ := List.mem_map.mp hk
      exact hF _ (of_decide_eq_true (List.mem_filter.mp hz).2)
    · intro mk
      have kF : k ∈ F := by
        induction mk with
        | op h => exact hO _ h
        | fl h f m ih => exact hC hM _ h f ih
      have kN := sub k kF
      unfold Bk.kN at kN
      obtain ⟨z, hz, rfl⟩ := List.mem_map.mp kN
      exact List.mem_map.mpr ⟨z, List.mem_filter.mpr ⟨hz, decide_eq_true kF⟩, rfl⟩
end
end Ls
/-! LsB5 -/
set_option Elab.async false
set_option linter.all false
set_option maxRecDepth 100000
namespace Ls
open PySem PySem.Spec PyProof.Rows L2 Lx
open Evl (Ex Ex.refl Ex.trans Ex.mut Ex.new Ev EvT EvL EvU EvA ex_l ex_t ex_rd sq_of st_of sz_of sz_lt fresh_back)
section
variable {P : Program} {w : World} {K : PySem.W.Frag} {mg : Str → Option Value} {base : Heap}
/-! ### questions -/
theorem emp_app (s : Str) : Str.empty ++ s = s := by
  show (⟨#[] ++ s.cps⟩ : Str) = s
  rw [Array.empty_append]
def lastQ (b : Bool) : Str := if b then "unjust " else "spoilt "
def colQs (c : Col) : List Str := ["loose " ++ c.word, "half " ++ c.word, lastQ c.fall ++ c.word]
def qsB (B : Bk) : List Str := B.cols.flatMap colQs ++ B.kN.map (("undue " : Str) ++ ·) ++ (["stuck"] : List Str)
theorem q_join {X : Cx} {σ : L2.St} {H : Hp} {e : Expr} {p1 p2 pos : Pos} {k : Nat} {a b : Str} (hb : XE X e σ H (.str b)) (la : a.length ≤ 100) (lb : b.length ≤ 100) :
    XE X (.JoinedStr [.Constant (.str a) k p1, .FormattedValue e (-1) none p2] pos) σ H (.str (a ++ b)) := by
  have e1 : Str.empty ++ a ++ b = a ++ b := by rw [emp_app]
  rw [← e1]
  exact x_join (j_str (j_fmt hb j_nil (by omega) (by rw [len_app, emp_app]; omega)) (by rw [emp_app]; omega))
def spQs (K : PySem.W.Frag) : Sp := fun vs H Q _ => ∃ b a B, vs = [.ref b] ∧ BkAt K H b a B ∧ BkOk B ∧ ∀ (p : Addr) (H' : Hp), H p = none → Ex H H' → H' p = some (.lst ((qsB B).map V.str)) → Q (.ref p) H'
theorem ok_questions (T : Tf K mg) : C8.Met P w K mg base 1 (cB K) "questions" (spQs K) [] := by
  refine met_of (N := ["self", "found", "word", "column", "kind"]) T.m_B_questions (by decide +kernel) (fun vs H Q E ⟨b, a, B, e, _⟩ => by rw [e]; rfl) fun f cdv A outer s H vs Q E hr nd h => ?_
  obtain ⟨b, a, B, rfl, hB, O, q⟩ := h
  have wl := paired_len hB.hv
  have lk : B.kinds.length ≤ 10 := O.l1
  have lc : B.cols.length ≤ 10 := O.l2
  refine b_setN 1 (xn_l (x_lst x_anil)) fun r H1 r0 x1 hd => ?_
  have hB1 := hB.mono x1
  have nr : r ≠ a.d3 := fun z => by rw [z, hB.hc] at r0; cases r0
  refine b_forI hB1.hc (fun od => x_fld (x_var 0) (hB1.lock hB1.hc).hb T.cl_B T.nB_column_table bkF_3) (pg_tup rfl (pgs_cons (pg_name (i := 2) nd rfl (.inl rfl)) (pgs_cons (pg_name (i := 3) nd rfl (.inl rfl)) pgs_nil)))
    (fun od i σ' H' => (∃ x y, σ' = [some (.ref b), some (.ref r), x, y, none]) ∧ Ex (upd H a.d3 (.frz od (.dK ((B.cols.zip a.vs).map fun p => (Sum.inr p.1.word, p.2))))) H' ∧ H' r = some (.lst (((B.cols.take i).flatMap colQs).map V.str))) (fun od H2 x2 => ⟨⟨none, none, rfl⟩, (ex_lock x1).trans x2, ex_upd_of x2 hd nr⟩) (fun od i σ' H' ⟨_, x, _⟩ => x _ _ upd_same) ?_ ?_
  · rintro od i k x σ' H' Tt hk ⟨⟨y, z, rfl⟩, x3, hr3⟩ hT
    have hw : ∃ c, B.cols[i]? = some c ∧ k = Sum.inr c.word ∧ a.vs[i]? = some x := by
      rw [List.getElem?_map] at hk
      obtain ⟨p, hp, e⟩ := Option.map_eq_some_iff.mp hk
      obtain ⟨h1, h2⟩ := List.getElem?_zip_eq_some.mp hp
      injection e with e1 e2
      exact ⟨p.1, h1, e1.symm, e2 ▸ h2⟩
    obtain ⟨c, hc, rfl, hx⟩ := hw
    have lw := (O.cs c (List.mem_of_getElem? hc)).1.hi
    have hi : i < B.cols.length := (List.getElem?_eq_some_iff.mp hc).1
    obtain ⟨c', hc', hcol⟩ := prd_at hB.hv hx
    rw [hc] at hc'
    cases hc'
    obtain ⟨p, dx, rfl, hp⟩ := col_lock (od := od) hB.hc hcol
    have hp := x3 _ _ hp
    have zz := flat_len (g := colQs) (n := 3) (fun _ => Nat.le_refl _) (B.cols.take i)
    rw [List.length_take] at zz
    have xT : Ex H' (upd H' Tt (.tup [kV (Sum.inr c.word), V.ref p])) := Ex.new hT
    refine ⟨_, _, rfl, st_of upd_same, rfl, _, _, rfl, _, _, rfl, rfl, ?_⟩
    generalize upd H' Tt (.tup [kV (Sum.inr c.word), V.ref p]) = H5 at xT
    have hr5 := xT _ _ hr3
    have hp5 := xT _ _ hp
    refine b_extN (S := fun p H2 => H2 p = some (.lst ([("loose " : Str) ++ c.word, ("half " : Str) ++ c.word].map V.str))) hr5 (x_var 1) (xn_l (x_lst (x_acons (q_join (x_var 2) (by decide) (by omega)) (x_acons (q_join (x_var 2) (by decide) (by omega)) x_anil)))) (fun p H4 x4 h => ⟨_, h, by rw [List.length_map, List.length_map]; show _ + 2 ≤ 100000; omega⟩) fun p2 ys H6 x6 p20 h hy => ?_
    rw [h] at hy
    cases hy
    have nrr : r ≠ p := fun z => by rw [z, hp5] at hr5; cases hr5
    have hp6 : (upd H6 r (.lst (((B.cols.take i).flatMap colQs).map V.str ++ [("loose " : Str) ++ c.word, ("half " : Str) ++ c.word].map V.str))) p = some (.ins (cC K) dx (colF c)) := by rw [upd_ne (fun z => nrr z.symm)]; exact x6 _ _ hp5
    refine b_app upd_same (x_var 1) (x_is (x_ifE (t_is (t_eq (x_fld (x_var 3) hp6 T.cl_C T.nC_rule (colF_rule c)) (x_gl T.s_FALL)) (b' := c.fall) (by cases c.fall <;> rfl)) (v := .str (lastQ c.fall ++ c.word)) (fun h => by
        rw [h]
        exact q_join (x_var 2) (by decide) (by omega)) fun h => by
        rw [h]
        exact q_join (x_var 2) (by decide) (by omega)) rfl) (by rw [List.length_append, List.length_map, List.length_map]; show _ + 2 < 100000; omega) fun H7 x7 => b_nil ?_
    have h0 : (upd H a.d3 (.frz od (.dK ((B.cols.zip a.vs).map fun p => (Sum.inr p.1.word, p.2))))) r = none := by rw [upd_ne nr]; exact r0
    refine ⟨⟨_, _, rfl⟩, Ex.mut ((Ex.mut ((x3.trans xT).trans x6) h0).trans x7) h0, ?_⟩
    rw [upd_same, take_flat hc, List.map_append, List.append_assoc] <;> rfl
  · rintro od σ' H' ⟨⟨y, z, rfl⟩, x3, hr3⟩
    have e3 : ((B.cols.zip a.vs).map fun p => ((Sum.inr p.1.word : Key), p.2)).length = B.cols.length := by rw [List.length_map, List.length_zip, wl, Nat.min_self]
    rw [e3, List.take_length] at hr3
    have x4 := ex_unlock (H := H) hB.hc x3
    have hr4 : (upd H' a.d3 (.dK ((B.cols.zip a.vs).map fun p => (Sum.inr p.1.word, p.2)))) r = some (.lst ((B.cols.flatMap colQs).map V.str)) := by rw [upd_ne nr]; exact hr3
    generalize upd H' a.d3 (.dK ((B.cols.zip a.vs).map fun p => (Sum.inr p.1.word, p.2))) = H4 at x4 hr4
    have hB4 := hB.mono x4
    have zz := flat_len (g := colQs) (n := 3) (fun _ => Nat.le_refl _) B.cols
    refine b_extN (S := fun p H2 => H2 p = some (.lst (B.kinds.map fun k => V.str (("undue " : Str) ++ k.1)))) hr4 (x_var 1) (xn_imp (xn_l (xl_lcL (as := B.kinds) (rp := fun k => V.str k.1) (g := fun k => V.str (("undue " : Str) ++ k.1)) (fun _ => true) 4 hB4.hk trivial (fun od => src_is (src_k (x_fld (x_var 0) (hB4.lock hB4.hk).hb T.cl_B T.nB_open_kinds bkF_1) upd_same) (by rw [List.map_map] <;> rfl)) (by omega) fun od k H5 hk x5 _ _ _ _ _ =>
      ⟨ts_nil, fun _ => q_join (x_var 4) (by decide) (by have := (O.nm k hk).hi; omega)⟩)) fun p H2 _ h => by rw [h, filter_yes]) (fun p H5 x5 h => ⟨_, h, by rw [List.length_map, List.length_map]; omega⟩) fun p ys H5 x5 p0 h hy => ?_
    rw [h] at hy
    cases hy
    have x6 : Ex H (upd H5 r (.lst ((B.cols.flatMap colQs).map V.str ++ B.kinds.map fun k => V.str (("undue " : Str) ++ k.1)))) := Ex.mut (x4.trans x5) r0
    refine b_retN' (xn_l (x_lst (x_starS (x_var 1) (.inr (sq_of upd_same)) (x_acons x_str x_anil)) (by rw [List.length_append, List.length_append, List.length_map, List.length_map]; show _ + _ + 1 ≤ 100000; omega))) fun p7 H7 p70 x7 h7 => q p7 H7 (fresh_back x6 p70) (x6.trans x7) ?_
    rw [h7]
    unfold qsB Bk.kN
    simp only [List.map_append, List.map_map]
    rfl
end
end Ls
/-! LsW1 -/
set_option Elab.async false
set_option linter.all false
set_option maxRecDepth 100000
namespace Ls
open PySem PySem.Spec PyProof.Rows L2 Lx
open Evl (Ex Ex.refl Ex.trans Ex.mut Ex.new Ev EvT EvL EvU EvA ex_l ex_t ex_rd sq_of st_of sz_of sz_lt fresh_back)
open Lsm (X5 O3 Y4 L10 Le Wr Lb Qn)
/-! ### states, labels as texts -/
def xS : X5 → Str | .new => "new" | .plain => "plain" | .marked => "marked" | .other => "other" | .gone => "gone"
def oS : O3 → Str | .no => "-" | .y => "y" | .z => "z"
def yS : Y4 → Str | .new => "new" | .plain => "plain" | .marked => "marked" | .gone => "gone"
def zS : Bool → Str | true => "plain" | false => "new"
def kS (f : Bool) : Le → Str | .a => if f then "S" else "C" | .x => "X" | .y => "Y"
def lS (f : Bool) : L10 → Str
  | .e => "" | .a => if f then "S" else "C" | .x => "X" | .y => "Y"
  | .aa => if f then "SS" else "CC" | .ax => if f then "SX" else "CX" | .ay => if f then "SY" else "CY" | .xx => "XX" | .xy => "XY" | .yy => "YY"
def wS : Wr → Str | .no => "" | .spoilt => "spoilt" | .unjust => "unjust"
theorem x_new (x : X5) : decide (xS x = "new") = x.isNew := by cases x <;> decide
theorem x_plain (x : X5) : decide (xS x = "plain") = x.isPlain := by cases x <;> decide
theorem x_marked (x : X5) : decide (xS x = "marked") = x.isMarked := by cases x <;> decide
theorem x_gone (x : X5) : decide (xS x = "gone") = x.isGone := by cases x <;> decide
theorem o_no (x : O3) : decide (oS x = "-") = x.isNo := by cases x <;> decide
theorem o_y (x : O3) : decide (oS x = "y") = x.isY := by cases x <;> decide
theorem o_z (x : O3) : decide (oS x = "z") = x.isZ := by cases x <;> decide
theorem o_same (x y : O3) : decide (oS x = oS y) = x.same y := by cases x <;> cases y <;> decide
theorem y_new (x : Y4) : decide (yS x = "new") = x.isNew := by cases x <;> decide
theorem y_plain (x : Y4) : decide (yS x = "plain") = x.isPlain := by cases x <;> decide
theorem y_marked (x : Y4) : decide (yS x = "marked") = x.isMarked := by cases x <;> decide
theorem y_gone (x : Y4) : decide (yS x = "gone") = x.isGone := by cases x <;> decide
theorem z_new (x : Bool) : decide (zS x = "new") = !x := by cases x <;> decide
theorem z_plain (x : Bool) : decide (zS x = "plain") = x := by cases x <;> decide
theorem l_e (f : Bool) (l : L10) : decide (lS f l = "") = l.isE := by cases l <;> cases f <;> decide
/-! ### the lists' letters -/
theorem perm2 {α : Type} {a b : α} {ys : List α} (h : ys.Perm [a, b]) : ys = [a, b] ∨ ys = [b, a] := by
  match ys, h.length_eq with
  | [u, v], _ =>
    have hu : u ∈ [a, b] := h.subset (List.mem_cons_self ..)
    rcases List.mem_cons.mp hu with e | hu
    · subst e
      have := List.Perm.cons_inv h
      exact .inl (by rw [List.perm_singleton.mp this])
    · have e : u = b := by simpa using hu
      subst e
      have := List.Perm.cons_inv (h.trans (List.Perm.swap u a []))
      exact .inr (by rw [List.perm_singleton.mp this])
def sgn (s : Str) : List Str := s.cps.toList.map fun c => ⟨#[c]⟩
def joins (f : Bool) (l : L10) (k : Le) (l' : L10) : Bool := match sgn (lS f l ++ kS f k) with
  | [a] => decide (Txt.join "" [a] = lS f l')
  | [a, b] => (!sortedS [a, b] || decide (Txt.join "" [a, b] = lS f l')) && (!sortedS [b, a] || decide (Txt.join "" [b, a] = lS f l'))
  | _ => false
theorem joins_all : ∀ f ∈ [true, false], ∀ l ∈ Lsm.allL, ∀ k ∈ Lsm.allK, (match l.add k with | none => true | some l' => joins f l k l') = true := by decide +kernel
theorem all_k (k : Le) : k ∈ Lsm.allK := by cases k <;> decide
theorem join_ok {f : Bool} {l l' : L10} {k : Le} (h : l.add k = some l') {ys : List Str} (hp : ys.Perm (sgn (lS f l ++ kS f k))) (hs : sortedS ys = true) : Txt.join "" ys = lS f l' := by
  have j := joins_all f (by cases f <;> decide) l (Lsm.all_l l) k (all_k k)
  rw [h] at j
  simp only at j
  unfold joins at j
  split at j
  · next a e =>
    rw [e] at hp
    rw [List.perm_singleton.mp hp]
    exact of_decide_eq_true j
  · next a b e =>
    rw [e] at hp
    rw [Bool.and_eq_true] at j
    rcases perm2 hp with z | z
    · subst z
      have := j.1
      rw [hs] at this
      exact of_decide_eq_true this
    · subst z
      have := j.2
      rw [hs] at this
      exact of_decide_eq_true this
  · cases j
theorem sgn_len : ∀ f ∈ [true, false], ∀ l ∈ Lsm.allL, ∀ k ∈ Lsm.allK, ((l.add k).isSome == decide ((lS f l).length ≠ 2)) && decide ((sgn (lS f l ++ kS f k)).length ≤ 3) && decide ((lS f l).length ≤ 2) && decide ((kS f k).length ≤ 1) && ((sgn (lS f l ++ kS f k)).all fun s => decide (s.length ≤ 1)) = true := by decide +kernel
/-! ### a watch -/
def mNames : List Str := ["has", "may_mark", "may_put", "with_letter", "list_labels", "begin", "labels", "outcome", "is_fault", "first_other", "may_refer", "put_behind", "turned", "marked_behind", "fitting", "looked", "done_behind"]
structure WC (K : PySem.W.Frag) (C : Addr) : Prop where
  cl : Cls K C
  n1 : NoAttr K C "law_book"
  n2 : NoAttr K C "home"
  n3 : NoAttr K C "can_mark"
  n4 : NoAttr K C "sorts"
structure Wd where
  dx : Addr
  b : Addr
  m : Addr
  a : BkA
  B : Bk
  ms : List Str
  home : Str
  sorts : Str
  fs : List (Str × V)
structure WAt (K : PySem.W.Frag) (C : Addr) (H : Hp) (w : Addr) (W : Wd) : Prop where
  hw : H w = some (.ins C W.dx W.fs)
  f1 : W.fs.lookup ("law_book" : Str) = some (.ref W.b)
  f2 : W.fs.lookup ("home" : Str) = some (.str W.home)
  f3 : W.fs.lookup ("can_mark" : Str) = some (.ref W.m)
  f4 : W.fs.lookup ("sorts" : Str) = some (.str W.sorts)
  ln : ∀ m ∈ mNames, W.fs.lookup m = none
  hB : BkAt K H W.b W.a W.B
  O : BkOk W.B
  hm : SqL K H W.m (W.ms.map V.str)
  mkb : ∀ k, k ∈ W.ms ↔ Mkb W.B k
  hh : W.home ∈ W.B.kN
theorem WAt.mono {K : PySem.W.Frag} {C : Addr} {H H' : Hp} {w : Addr} {W : Wd} (h : WAt K C H w W) (e : Ex H H') : WAt K C H' w W := ⟨e _ _ h.hw, h.f1, h.f2, h.f3, h.f4, h.ln, h.hB.mono e, h.O, ex_l e h.hm, h.mkb, h.hh⟩
def Bk.has (B : Bk) (w n : Str) : Bool := decide (chkS w n ∈ B.checks)
def Bk.chk (B : Bk) (s : Str) : Bool := decide (s ∈ B.checks)
def Bk.isOpen (B : Bk) (k : Str) : Bool := decide ((k, true) ∈ B.kinds)
def Wd.mks (W : Wd) (k : Str) : Bool := decide (k ∈ W.ms)
theorem open_val {B : Bk} (O : BkOk B) {k : Str} (h : k ∈ B.kN) : valV (kindD B.kinds) (Sum.inr k : Key) = some (.bl (B.isOpen k)) := by
  unfold Bk.kN at h
  obtain ⟨z, hz, rfl⟩ := List.mem_map.mp h
  rw [val_kind O hz]
  obtain ⟨k, o⟩ := z
  cases o with
  | true => unfold Bk.isOpen; rw [decide_eq_true hz]
  | false =>
    have : ¬ (k, true) ∈ B.kinds := fun h2 => by
      have e1 := val_kind O hz
      have e2 := val_kind O h2
      rw [e1] at e2
      cases e2
    unfold Bk.isOpen
    rw [decide_eq_false this]
section
variable {P : Program} {w : World} {K : PySem.W.Frag} {mg : Str → Option Value} {base : Heap} {C : Addr}
def spHas (K : PySem.W.Frag) (C : Addr) : Sp := fun vs H Q _ => ∃ w W s n, vs = [.ref w, .str s, .str n] ∧ WAt K C H w W ∧ s.length ≤ 100 ∧ n.length ≤ 100 ∧ ∀ H', Ex H H' → Q (.bl (W.B.has s n)) H'
theorem v_has {H : Hp} {w : Addr} {W : Wd} {s n : Str} (h : WAt K C H w W) (l1 : s.length ≤ 100) (l2 : n.length ≤ 100) : PV (spHas K C) [.ref w, .str s, .str n] H (.bl (W.B.has s n)) := fun H1 e Q q => ⟨w, W, s, n, rfl, h.mono e, l1, l2, q⟩
theorem ok_has (T : Tf K mg) (hC : WC K C) (F : MF K C "has" "Watch.has" (meth 53 1) ["self", "word", "name"]) : C8.Met P w K mg base 3 C "has" (spHas K C) [] := by
  refine met_of (N := ["self", "word", "name"]) F (by decide +kernel) (fun vs H Q E ⟨w, W, s, n, e, _⟩ => by rw [e]; rfl) fun f cdv A outer s H vs Q E hr nd h => ?_
  obtain ⟨w, W, s, n, rfl, hW, l1, l2, q⟩ := h
  exact XS.run (s_ret (x_inOwn (ok_cont T) hr (chk_join (x_var 1) (x_var 2) l1 l2) (x_fld (x_var 0) hW.hw hC.cl hC.n1 hW.f1) hW.hB.hb (v_cont hW.hB)) q)
/-- the letters of the lists at a state: "may a row of this kind come to be marked" -/
def Wd.mayMark (W : Wd) (k : Str) (l : L10) : Bool := W.mks k && (l.isE || (!W.B.chk "lone" || W.B.isOpen k))
def spMayMark (K : PySem.W.Frag) (C : Addr) : Sp := fun vs H Q _ => ∃ w W k f l, vs = [.ref w, .str k, .str (lS f l)] ∧ WAt K C H w W ∧ k ∈ W.B.kN ∧ ∀ H', Ex H H' → Q (.bl (W.mayMark k l)) H'
theorem v_mayMark {H : Hp} {w : Addr} {W : Wd} {k : Str} {f : Bool} {l : L10} (h : WAt K C H w W) (hk : k ∈ W.B.kN) : PV (spMayMark K C) [.ref w, .str k, .str (lS f l)] H (.bl (W.mayMark k l)) := fun H1 e Q q => ⟨w, W, k, f, l, rfl, h.mono e, hk, q⟩
theorem ok_may_mark (T : Tf K mg) (hC : WC K C) (F : MF K C "may_mark" "Watch.may_mark" (meth 53 2) ["self", "kind", "letters"]) : C8.Met P w K mg base 3 C "may_mark" (spMayMark K C) [] := by
  refine met_of (N := ["self", "kind", "letters"]) F (by decide +kernel) (fun vs H Q E ⟨w, W, k, f, l, e, _⟩ => by rw [e]; rfl) fun f cdv A outer s H vs Q E hr nd h => ?_
  obtain ⟨w, W, k, f, l, rfl, hW, hk, q⟩ := h
  refine XS.run (s_if (t_niS (x_var 1) (x_fld (x_var 0) hW.hw hC.cl hC.n3 hW.f3) hW.hm) (fun hb => s_ret x_bl fun H1 e1 => ?_) fun hb => s_then ?_)
  · have : W.mayMark k l = false := by
      unfold Wd.mayMark Wd.mks
      rw [Bool.not_eq_true'] at hb
      rw [hb, Bool.false_and]
    rw [← this]
    exact q H1 e1
  · have hm : W.mks k = true := by
      unfold Wd.mks
      cases z : decide (k ∈ W.ms) with
      | true => rfl
      | false => rw [z] at hb; cases hb
    refine s_ret (x_or (x_b (x_eqS (x_var 2) x_str) (l_e f l)) fun _ => x_or (x_niOwn (ok_cont T) hr x_str (x_fld (x_var 0) hW.hw hC.cl hC.n1 hW.f1) hW.hB.hb (v_cont hW.hB)) fun _ => x_one (x_dget hr (x_fld (x_fld (x_var 0) hW.hw hC.cl hC.n1 hW.f1) hW.hB.hb T.cl_B T.nB_open_kinds bkF_1) (x_var 1) (by
      have g := get_s (k := k) (.inl hW.hB.hk : Rd H W.a.d1 (.dK (kindD W.B.kinds)))
      rw [open_val hW.O hk] at g
      exact g))) fun H1 e1 => ?_
    have := q H1 e1
    unfold Wd.mayMark at this
    rw [hm, Bool.true_and] at this
    exact this
def Bk.mayPut (B : Bk) (r : Str) : Bool := decide (r = "new") || (decide (r = "gone") && !B.chk "fresh")
def spMayPut (K : PySem.W.Frag) (C : Addr) : Sp := fun vs H Q _ => ∃ w W r, vs = [.ref w, .str r] ∧ WAt K C H w W ∧ ∀ H', Ex H H' → Q (.bl (W.B.mayPut r)) H'
theorem v_mayPut {H : Hp} {w : Addr} {W : Wd} {r : Str} (h : WAt K C H w W) : PV (spMayPut K C) [.ref w, .str r] H (.bl (W.B.mayPut r)) := fun H1 e Q q => ⟨w, W, r, rfl, h.mono e, q⟩
theorem ok_may_put (T : Tf K mg) (hC : WC K C) (F : MF K C "may_put" "Watch.may_put" (meth 53 3) ["self", "row"]) : C8.Met P w K mg base 3 C "may_put" (spMayPut K C) [] := by
  refine met_of (N := ["self", "row"]) F (by decide +kernel) (fun vs H Q E ⟨w, W, r, e, _⟩ => by rw [e]; rfl) fun f cdv A outer s H vs Q E hr nd h => ?_
  obtain ⟨w, W, r, rfl, hW, q⟩ := h
  exact XS.run (s_ret (x_or (x_eqS (x_var 1) x_str) fun _ => x_one (x_and (x_eqS (x_var 1) x_str) fun _ => x_one (x_niOwn (ok_cont T) hr x_str (x_fld (x_var 0) hW.hw hC.cl hC.n1 hW.f1) hW.hB.hb (v_cont hW.hB)))) q)
/-- the letters with one more -/
def oStr (f : Bool) : Option L10 → V | none => .non | some l => .str (lS f l)
def Bk.more (B : Bk) (l : L10) (k : Le) : Option L10 := if !l.isE && B.chk "lone" then none else l.add k
def spWith (K : PySem.W.Frag) (C : Addr) : Sp := fun vs H Q _ => ∃ w W f l k, vs = [.ref w, .str (lS f l), .str (kS f k)] ∧ WAt K C H w W ∧ ∀ H', Ex H H' → Q (oStr f (W.B.more l k)) H'
theorem v_with {H : Hp} {w : Addr} {W : Wd} {f : Bool} {l : L10} {k : Le} (h : WAt K C H w W) : PV (spWith K C) [.ref w, .str (lS f l), .str (kS f k)] H (oStr f (W.B.more l k)) := fun H1 e Q q => ⟨w, W, f, l, k, rfl, h.mono e, q⟩
theorem ok_with (T : Tf K mg) (hC : WC K C) (F : MF K C "with_letter" "Watch.with_letter" (meth 53 4) ["self", "letters", "letter"]) : C8.Met P w K mg base 3 C "with_letter" (spWith K C) [] := by
  refine met_of (N := ["self", "letters", "letter", "one"]) F (by decide +kernel) (fun vs H Q E ⟨w, W, f, l, k, e, _⟩ => by rw [e]; rfl) fun f cdv A outer s H vs Q E hr nd h => ?_
  obtain ⟨w, W, f, l, k, rfl, hW, q⟩ := h
  have sl := sgn_len f (by cases f <;> decide) l (Lsm.all_l l) k (all_k k)
  simp only [Bool.and_eq_true, decide_eq_true_eq, beq_iff_eq] at sl
  obtain ⟨⟨⟨⟨s1, s2⟩, s3⟩, s4⟩, s5⟩ := sl
  have ev : ∀ b, decide ((V.int ((lS f l).length : Int)) = V.int 2) = b → decide ((lS f l).length = 2) = b := fun b h => by
    rw [← h]
    refine decide_eq_decide.mpr ⟨fun h => by rw [h] <;> rfl, fun h => ?_⟩
    have := V.int.inj h
    omega
  refine XS.run (s_if (t_w (w_or (t_is (t_eq (x_lenS T.b_len (x_var 1) (by omega)) x_int) (ev _ rfl).symm) fun _ => w_or1 (t_w (w_and (t_is (t_neS (x_var 1) x_str) (by rw [l_e])) fun _ => w_and1 (t_inOwn (ok_cont T) hr x_str (x_fld (x_var 0) hW.hw hC.cl hC.n1 hW.f1) hW.hB.hb (v_cont hW.hB)))))) (fun hb => s_ret x_non fun H1 e1 => ?_) fun hb => s_then ?_)
  · have : W.B.more l k = none := by
      unfold Bk.more
      rw [Bool.or_eq_true] at hb
      rcases hb with hb | hb
      · rw [of_decide_eq_true hb] at s1
        have : l.add k = none := by
          cases z : l.add k with
          | none => rfl
          | some _ => rw [z] at s1; cases s1
        rw [this]
        split <;> rfl
      · exact if_pos hb
    have h2 := q H1 e1
    rw [this] at h2
    exact h2
  · rw [Bool.or_eq_false_iff] at hb
    have n2 : (lS f l).length ≠ 2 := of_decide_eq_false hb.1
    rw [decide_eq_true n2] at s1
    obtain ⟨l', hl⟩ := Option.isSome_iff_exists.mp s1
    have hm : W.B.more l k = some l' := by
      unfold Bk.more
      have h2 : (!l.isE && W.B.chk "lone") = false := hb.2
      rw [h2, hl] <;> rfl
    rw [hm] at q
    refine s_ret (x_joinN x_str (xn_sortS (ss := sgn (lS f l ++ kS f k)) T.b_sorted (xl_is (x_lcE (as := (lS f l ++ kS f k).cps.toList) (rp := fun c => V.str ⟨#[c]⟩) 3 (fun _ => true) (fun c => V.str ⟨#[c]⟩) (src_s (x_adds (x_var 1) (x_var 2) (by omega))) (by unfold sgn at s2; rw [List.length_map] at s2; omega) fun c H' hc e _ _ _ _ _ => ⟨ts_nil, fun _ => x_strS T.b_str (x_var 3)⟩) (by rw [filter_yes]; unfold sgn; rw [List.map_map] <;> rfl)) (by omega)) fun p H2 ⟨ys, h1, h2, h3⟩ => ⟨ys, h1, ?_, join_ok hl h2 h3⟩) q
    have e0 : ("" : Str).length = 0 := rfl
    rw [e0, Nat.mul_zero, Nat.add_zero]
    have : ∀ xs : List Str, (∀ x ∈ xs, x.length ≤ 1) → (xs.map (·.length)).sum ≤ xs.length := fun xs => by
      induction xs with
      | nil => intro _; exact Nat.zero_le _
      | cons x xs ih =>
        intro h
        have := h x (List.mem_cons_self ..)
        have := ih fun y hy => h y (List.mem_cons_of_mem _ hy)
        rw [List.map_cons, List.sum_cons, List.length_cons]
        omega
    have := this ys fun x hx => of_decide_eq_true (List.all_eq_true.mp s5 x (h2.subset hx))
    have := h2.length_eq
    omega
end
end Ls
/-! LsK -/
set_option Elab.async false
set_option linter.all false
set_option maxRecDepth 100000
namespace Lx
open PySem PySem.Spec PyProof.Rows L2 Evl
section
variable {X : Cx} {e : Expr} {es : List Expr} {σ : L2.St} {H : Hp} {xs vs : List V} {a : Addr} {pos p1 p2 p : Pos} {i : Int} {k : Nat}
/-- t[:i], not the whole -/
theorem x_slTo (ha : XE X e σ H (.ref a)) (h : SqT X.K H a xs) (hi : i = (k : Int)) (hk : k < xs.length) {kk : Nat} : XU X (.Subscript e (.Slice none (some (.Constant (.int i) kk p1)) none p2) pos) σ H (xs.take k) := by
  subst hi
  refine xu (pe_slice sl_tup peT po_none (po_some pe_int)) fun H1 e1 Q q => ha H1 e1 _ fun H2 e2 => ?_
  have e0 : HT.sIx xs.length 0 none = 0 := rfl
  have e1' : HT.sIx xs.length xs.length (some (k : Int)) = k := by
    unfold HT.sIx
    simp only
    have h0 : ¬ ((k : Int) < 0) := by omega
    rw [if_neg h0]
    omega
  refine ⟨(k : Int), rfl, a, xs, rfl, ex_t (e1.trans e2) h, fun z => ?_, fun p hp => q p _ (fresh_back e2 hp) (e2.trans (Ex.new hp)) ?_⟩
  · rw [e1'] at z
    omega
  · rw [upd_same]
    unfold cutV
    rw [e0, e1', List.drop_zero, Nat.sub_zero]
/-- *(a new tuple) -/
theorem x_starU (h : XU X e σ H xs) (h2 : XA X es σ H vs) (hs : starEach (.Starred e p :: es) X.env = (true, eval e X.env) :: starEach es X.env := by rfl) : XA X (.Starred e p :: es) σ H (xs ++ vs) :=
  xa (StX.pa_star peT paT hs) fun H1 e1 Q q => h H1 e1 _ fun a H2 _ e2 hx => ⟨a, xs, rfl, .inl (st_of hx), h2 H2 (e1.trans e2) _ fun H3 e3 => q H3 (e2.trans e3)⟩
end
end Lx
/-! LsL -/
set_option Elab.async false
set_option linter.all false
set_option maxRecDepth 100000
namespace Lx
open PySem PySem.Spec PyProof.Rows L2 Evl
section
variable {X : Cx} {o i k v : Expr} {keys : List (Option Expr)} {values : List Expr} {σ : L2.St} {H : Hp} {x y : V} {ps : List (V × V)} {kvs : List (Key × V)} {pos p1 : Pos}
/-- {k: v, ..}: the pairs -/
structure XD (X : Cx) (pos : Pos) (keys : List (Option Expr)) (values : List Expr) (σ : L2.St) (H : Hp) (ps : List (V × V)) : Prop where
  ex : ∃ trs, PPs X pos keys values trs ∧ ∀ H1, Ex H H1 → ∀ Q : List (V × V) → Hp → Prop, (∀ H2, Ex H1 H2 → Q ps H2) → tPairs trs σ H1 Q
theorem d_nil : XD X pos [] [] σ H [] := ⟨[], pps_nil, fun H1 _ Q q => q H1 (Ex.refl H1)⟩
theorem d_cons (hk : XE X k σ H x) (hv : XE X v σ H y) (h : XD X pos keys values σ H ps) : XD X pos (some k :: keys) (v :: values) σ H ((x, y) :: ps) := by
  obtain ⟨trs, pp, run⟩ := h.ex
  exact ⟨_, pps_cons peT peT pp, fun H1 e1 Q q => hk H1 e1 _ fun H2 e2 => hv H2 (e1.trans e2) _ fun H3 e3 => run H3 ((e1.trans e2).trans e3) _ fun H4 e4 => q H4 ((e2.trans e3).trans e4)⟩
theorem xn_disp (h : XD X pos keys values σ H ps) (hp : ps = kvs.map fun kv => (kV kv.1, kv.2)) (hall : keys.all (·.isSome) = true := by rfl) (hl : keys.length = values.length := by rfl) (h0 : keys ≠ [] := by simp) (h15 : keys.length ≤ 15 := by exact Nat.le_of_ble_eq_true rfl) (h16 : kvs.length ≤ 15 := by exact Nat.le_of_ble_eq_true rfl) :
    XN X (.Dict keys values pos) σ H (fun p H2 => H2 p = some (.dK (mergeK [] kvs))) := by
  obtain ⟨trs, pp, run⟩ := h.ex
  exact xn (pe_disp pp hall hl h0 h15) fun H1 e1 Q q => fun p hp' => run _ (e1.trans (Ex.new hp')) _ fun H2 e2 => ⟨e2 _ _ upd_same, kvs, hp, h16, q p _ hp' (Ex.mut ((Ex.new hp').trans e2) hp') upd_same⟩
/-- a display, an item of it at once -/
theorem x_dgetN {j : Nat} {R : Addr → Hp → Prop} (hr : Room j X.A) (ho : XN X o σ H R) (hi : XE X i σ H x) (hR : ∀ p H2, R p H2 → Rd H2 p (.dK kvs)) (hx : x = kV kk) (hv : valV kvs kk = some y) (hs : NoSl i := by intro _ _; rfl) : XE X (.Subscript o i pos) σ H y :=
  xe (pe_dget (hu_of hr) peT peT hs) fun H1 e1 Q q => ho H1 e1 _ fun p H2 hp e2 r => hi H2 (e1.trans e2) _ fun H3 e3 => ⟨p, y, rfl, by
    rw [hx, ← hv]
    exact get_k (ex_rd e3 (hR p H2 r)), q H3 (e2.trans e3)⟩
/-- (new thing, exact) -/
theorem xp_pair {a c : Expr} {R : V → Hp → Prop} {y1 : Nat} (h1 : XP X a σ H R) (m : ∀ v H1 H2, Ex H1 H2 → R v H1 → R v H2) (h2 : XE X c σ H y)
    (hs : starEach (a :: [c]) X.env = (false, eval a X.env) :: starEach [c] X.env := by rfl) (hs2 : starEach [c] X.env = (false, eval c X.env) :: starEach [] X.env := by rfl) : XP X (.Tuple [a, c] y1 pos) σ H (fun w H2 => ∃ p v, w = .ref p ∧ H2 p = some (.tup [v, y]) ∧ R v H2) :=
  xp_imp (xp_tup (R := fun vs H2 => ∃ v r, vs = v :: r ∧ R v H2 ∧ r = [y]) (xap_cons (R := fun r _ => r = [y]) h1 (xap_e (x_acons h2 x_anil hs2)) m hs) (fun vs H2 ⟨v, r, e, _, e2⟩ => by subst e2; subst e; show 2 ≤ 100000; decide) (fun vs H1 H2 e ⟨v, r, e1, r1, e2⟩ => ⟨v, r, e1, m v H1 H2 e r1, e2⟩)) fun w H2 _ ⟨p, vs, e, h, v, r, e1, r1, e2⟩ => by
    subst e2
    subst e1
    exact ⟨p, v, e, h, r1⟩
end
end Lx
/-! LsW2 -/
set_option Elab.async false
set_option linter.all false
set_option maxRecDepth 100000
namespace Ls
open PySem PySem.Spec PyProof.Rows L2 Lx
open Evl (Ex Ex.refl Ex.trans Ex.mut Ex.new Ev EvT EvL EvU EvA ex_l ex_t ex_rd sq_of st_of sz_of sz_lt fresh_back)
open Lsm (X5 O3 Y4 L10 Le Wr Lb Qn Cf)
/-! ### the watch of a column -/
theorem wc_W {K : PySem.W.Frag} {mg : Str → Option Value} (T : Tf K mg) : WC K (cW K) := ⟨T.cl_W, T.nW_law_book, T.nW_home, T.nW_can_mark, T.nW_sorts⟩
theorem wc_K {K : PySem.W.Frag} {mg : Str → Option Value} (T : Tf K mg) : WC K (cK K) := ⟨T.cl_K, T.nK_law_book, T.nK_home, T.nK_can_mark, T.nK_sorts⟩
structure Wx where
  bc : Addr
  dc : Addr
  c : Col
  ov : V
  oc : Option Col
structure CwAt (K : PySem.W.Frag) (H : Hp) (w : Addr) (W : Wd) (x : Wx) : Prop where
  wa : WAt K (cW K) H w W
  g1 : W.fs.lookup ("by" : Str) = some (.ref x.bc)
  g2 : W.fs.lookup ("goal" : Str) = some (.str x.c.goal)
  g3 : W.fs.lookup ("other_column" : Str) = some x.ov
  hc : H x.bc = some (.ins (cC K) x.dc (colF x.c))
  ho : match x.oc with | none => x.ov = .non | some c => ColAt K H x.ov c ∧ c ∈ W.B.cols ∧ c.fall = true ∧ c.home = x.c.home ∧ c.word ≠ x.c.word ∧ Mkb W.B c.goal
  mc : x.c ∈ W.B.cols
  eh : W.home = x.c.home
  es : W.sorts = if x.c.fall then ("SXY" : Str) else ("CXY" : Str)
theorem CwAt.mono {K : PySem.W.Frag} {H H' : Hp} {w : Addr} {W : Wd} {x : Wx} (h : CwAt K H w W x) (e : Ex H H') : CwAt K H' w W x := ⟨h.wa.mono e, h.g1, h.g2, h.g3, e _ _ h.hc, by
  have := h.ho
  cases ho : x.oc with
  | none => rw [ho] at this; exact this
  | some c => rw [ho] at this; obtain ⟨⟨p, dx, h1, h2⟩, r⟩ := this; exact ⟨⟨p, dx, h1, e _ _ h2⟩, r⟩, h.mc, h.eh, h.es⟩
def cfg (W : Wd) (x : Wx) : Cf := ⟨W.B.chk "fresh", W.B.chk "lone", W.B.has "put" x.c.word, W.B.has "turn" x.c.word, W.B.has "keep" x.c.word, W.B.has "hold" x.c.word, W.B.has "again" x.c.word, W.B.has "bare" x.c.goal, W.B.has "calm" x.c.goal, W.B.has "again" x.c.goal, W.B.has "again" x.c.home, W.B.isOpen x.c.home, W.B.isOpen x.c.goal, W.mks x.c.goal, x.oc.isSome, x.c.fall⟩
def stV (f : Bool) (s : Lsm.S) : List V := [.str (xS s.x), .str (oS s.p), .str (yS s.y), .str (zS s.z), .str (lS f s.l)]
def StR (f : Bool) : Option Lsm.S → V → Hp → Prop
  | none => fun v _ => v = .non
  | some t => fun v H => ∃ p, v = .ref p ∧ H p = some (.tup (stV f t))
theorem x_here (x : X5) : inV (.str (xS x)) [.str "plain", .str "marked", .str "other"] = x.here := by cases x <;> decide
theorem y_mg (x : Y4) : inV (.str (yS x)) [.str "marked", .str "gone"] = (x.isMarked || x.isGone) := by cases x <;> decide
theorem x_mo (x : X5) : inV (.str (xS x)) [.str "marked", .str "other"] = (x.isMarked || x.isOther) := by cases x <;> decide
theorem x_pm (x : X5) : inV (.str (xS x)) [.str "plain", .str "marked"] = (x.isPlain || x.isMarked) := by cases x <;> decide
theorem y_pm (x : Y4) : inV (.str (yS x)) [.str "plain", .str "marked"] = (x.isPlain || x.isMarked) := by cases x <;> decide
section
variable {X : Cx} {d a c : Expr} {pos : Pos} {σ : L2.St} {H : Hp}
theorem xp_st {f b : Bool} {t : Lsm.S} (hb : XT X d σ H b) (h1 : b = true → XU X a σ H (stV f t)) (h2 : XE X c σ H .non) : XP X (.IfExp d a c pos) σ H (StR f (if b then some t else none)) :=
  xp_ifE hb (fun h => by rw [if_pos h]; exact xp_u (h1 h)) fun h => by rw [h, if_neg Bool.false_ne_true]; exact xp_e h2
theorem x_hereT {K : PySem.W.Frag} {mg : Str → Option Value} (T : Tf K mg) {x : X5} {X : Cx} (hK : X.K = K := by rfl) (hmg : X.mg = mg := by rfl) (ha : XE X a σ H (.str (xS x))) {pz : Pos} (hg : Gl X "HERE" := by rfl) : XT X (.Compare a [.In] [.Name "HERE" pz] pos) σ H x.here := by
  subst hK
  subst hmg
  obtain ⟨h, e, ht⟩ := T.t_HERE
  exact t_is (t_inT ha (x_glob (v := .ref h) e rfl hg (by decide)) (ht H) rfl rfl rfl) (x_here x)
theorem x_nhereT {K : PySem.W.Frag} {mg : Str → Option Value} (T : Tf K mg) {x : X5} {X : Cx} (hK : X.K = K := by rfl) (hmg : X.mg = mg := by rfl) (ha : XE X a σ H (.str (xS x))) {pz : Pos} (hg : Gl X "HERE" := by rfl) : XT X (.Compare a [.NotIn] [.Name "HERE" pz] pos) σ H (!x.here) := by
  subst hK
  subst hmg
  obtain ⟨h, e, ht⟩ := T.t_HERE
  exact t_is (t_niT ha (x_glob (v := .ref h) e rfl hg (by decide)) (ht H) rfl rfl rfl) (by rw [x_here])
end
theorem oS_len (o : O3) : (oS o).length ≤ 100 := by cases o <;> decide
section
variable {P : Program} {w : World} {K : PySem.W.Frag} {mg : Str → Option Value} {base : Heap}
theorem CwAt.lw {H : Hp} {w : Addr} {W : Wd} {x : Wx} (h : CwAt K H w W x) : x.c.word.length ≤ 100 := Nat.le_trans (h.wa.O.cs _ h.mc).1.hi (by decide)
theorem CwAt.lkind {H : Hp} {w : Addr} {W : Wd} {x : Wx} (h : CwAt K H w W x) {k : Str} (hk : k ∈ W.B.kN) : k.length ≤ 100 := by
  unfold Bk.kN at hk
  obtain ⟨z, hz, rfl⟩ := List.mem_map.mp hk
  exact Nat.le_trans (h.wa.O.nm _ hz).hi (by decide)
theorem CwAt.ln {H : Hp} {w : Addr} {W : Wd} {x : Wx} (h : CwAt K H w W x) {m : Str} (hm : m ∈ mNames := by decide) : W.fs.lookup m = none := h.wa.ln m hm
/-! ### may_refer -/
def spRefer (K : PySem.W.Frag) : Sp := fun vs H Q _ => ∃ w W x s o p t, vs = [.ref w, .str s, .str (oS o), .ref p] ∧ CwAt K H w W x ∧ H p = some (.tup (stV x.c.fall t)) ∧ s.length ≤ 100 ∧ ∀ H', Ex H H' → Q (.bl (Lsm.refer (W.B.has s x.c.word) o t)) H'
theorem v_refer {H : Hp} {w p : Addr} {W : Wd} {x : Wx} {s : Str} {o : O3} {t : Lsm.S} (h : CwAt K H w W x) (hp : H p = some (.tup (stV x.c.fall t))) (l : s.length ≤ 100) : PV (spRefer K) [.ref w, .str s, .str (oS o), .ref p] H (.bl (Lsm.refer (W.B.has s x.c.word) o t)) := fun H1 e Q q => ⟨w, W, x, s, o, p, t, rfl, h.mono e, e _ _ hp, l, q⟩
theorem ok_refer (T : Tf K mg) : C8.Met P w K mg base 4 (cW K) "may_refer" (spRefer K) [] := by
  refine met_of (N := ["self", "word", "owner", "state"]) T.m_W_may_refer (by decide +kernel) (fun vs H Q E ⟨w, W, x, s, o, p, t, e, _⟩ => by rw [e]; rfl) fun f cdv A outer sh H vs Q E hr nd h => ?_
  obtain ⟨w, W, x, s, o, p, t, rfl, hW, hp, l, q⟩ := h
  have wa := hW.wa
  refine XS.run (s_if (t_is (t_eqS (x_var 2) x_str) (o_y o)) (fun hb => ?_) fun hb => s_then ?_)
  · have eo : o = .y := by cases o <;> first | rfl | cases hb
    subst eo
    refine s_ret (x_or (x_b (x_eqS (x_ixT (x_var 3) x_int (st_of hp) rfl) x_str) (y_plain t.y)) fun _ => x_one (x_and (x_b (x_eqS (x_ixT (x_var 3) x_int (st_of hp) rfl) x_str) (y_marked t.y)) fun _ => x_one (x_not (x_meth (ok_has T (wc_W T) T.m_W_has) hr (x_var 0) wa.hw hW.ln (x_acons (x_var 1) (x_acons (x_fld (x_fld (x_var 0) wa.hw T.cl_W T.nW_by hW.g1) hW.hc T.cl_C T.nC_word (colF_word _)) x_anil)) (v_has wa l hW.lw))))) q
  · refine s_ret (x_or (x_b (x_eqS (x_var 2) x_str) (o_no o)) fun _ => x_one (x_b (x_eqS (x_ixT (x_var 3) x_int (st_of hp) rfl) x_str) (z_plain t.z))) fun H1 e1 => ?_
    have := q H1 e1
    cases o with
    | y => cases hb
    | no => exact this
    | z => exact this
end
end Ls
/-! LsW3 -/
set_option Elab.async false
set_option linter.all false
set_option maxRecDepth 100000
namespace Ls
open PySem PySem.Spec PyProof.Rows L2 Lx
open Evl (Ex Ex.refl Ex.trans Ex.mut Ex.new Ev EvT EvL EvU EvA ex_l ex_t ex_rd sq_of st_of sz_of sz_lt fresh_back)
open Lsm (X5 O3 Y4 L10 Le Wr Lb Qn Cf)
section
variable {P : Program} {w : World} {K : PySem.W.Frag} {mg : Str → Option Value} {base : Heap}
theorem put_x (B : Bk) (x : X5) : B.mayPut (xS x) = (x.isNew || (x.isGone && !B.chk "fresh")) := by unfold Bk.mayPut; rw [x_new, x_gone]
theorem put_y (B : Bk) (x : Y4) : B.mayPut (yS x) = (x.isNew || (x.isGone && !B.chk "fresh")) := by unfold Bk.mayPut; rw [y_new, y_gone]
theorem x_ne {x : X5} : (!decide (xS x = "plain")) = !x.isPlain := by rw [x_plain]
/-! ### put_behind -/
inductive R3 where | x | y | z
def rS : R3 → Str | .x => "x" | .y => "y" | .z => "z"
def putO (c : Cf) (r : R3) (o : O3) (s : Lsm.S) : Option Lsm.S := match r with
  | .x => if Lsm.mayPutX c s.x && Lsm.refer c.put o s then some { s with x := .plain, p := o } else none
  | .y => if Lsm.mayPutY c s.y then some { s with y := .plain } else none
  | .z => if !s.z then some { s with z := true } else none
def spPut (K : PySem.W.Frag) : Sp := fun vs H Q _ => ∃ w W x r o p t, vs = [.ref w, .str (rS r), .str (oS o), .ref p] ∧ CwAt K H w W x ∧ H p = some (.tup (stV x.c.fall t)) ∧ ∀ v H', Ex H H' → StR x.c.fall (putO (cfg W x) r o t) v H' → Q v H'
theorem v_put {H : Hp} {w p : Addr} {W : Wd} {x : Wx} {r : R3} {o : O3} {t : Lsm.S} (h : CwAt K H w W x) (hp : H p = some (.tup (stV x.c.fall t))) : PP (spPut K) [.ref w, .str (rS r), .str (oS o), .ref p] H (StR x.c.fall (putO (cfg W x) r o t)) := fun H1 e Q q => ⟨w, W, x, r, o, p, t, rfl, h.mono e, e _ _ hp, q⟩
theorem ok_put (T : Tf K mg) : C8.Met P w K mg base 5 (cW K) "put_behind" (spPut K) [] := by
  refine met_of (N := ["self", "row", "owner", "state", "x", "present", "y", "z", "letters"]) T.m_W_put_behind (by decide +kernel) (fun vs H Q E ⟨w, W, x, r, o, p, t, e, _⟩ => by rw [e]; rfl) fun f cdv A outer sh H vs Q E hr nd h => ?_
  obtain ⟨w, W, x, r, o, p, t, rfl, hW, hp, q⟩ := h
  have wa := hW.wa
  refine XS.run (s_un5 4 5 6 7 8 (x_var 3) (st_of hp) ?_)
  cases r with
  | x =>
    refine s_if (t_is (t_eqS (x_var 1) x_str) (b' := true) (by decide)) (fun _ => ?_) (fun e => nomatch e)
    refine s_retP (xp_st (t_w (w_and (t_val (x_meth (ok_may_put T (wc_W T) T.m_W_may_put) hr (x_var 0) wa.hw hW.ln (x_acons (x_var 4) x_anil) (v_mayPut wa))) fun _ => w_and1 (t_val (x_meth (ok_refer T) hr (x_var 0) wa.hw hW.ln (x_acons x_str (x_acons (x_var 2) (x_acons (x_var 3) x_anil))) (v_refer hW hp (by decide)))))) (fun _ => x_tup (x_acons x_str (x_acons (x_var 2) (x_acons (x_var 6) (x_acons (x_var 7) (x_acons (x_var 8) x_anil)))))) x_non (t := { t with x := .plain, p := o })) fun v H1 e1 h => q v H1 e1 ?_
    rw [put_x] at h
    exact h
  | y =>
    refine s_if (t_is (t_eqS (x_var 1) x_str) (b' := false) (by decide)) (fun e => nomatch e) fun _ => s_then ?_
    refine s_if (t_is (t_eqS (x_var 1) x_str) (b' := true) (by decide)) (fun _ => ?_) (fun e => nomatch e)
    refine s_retP (xp_st (t_val (x_meth (ok_may_put T (wc_W T) T.m_W_may_put) hr (x_var 0) wa.hw hW.ln (x_acons (x_var 6) x_anil) (v_mayPut wa))) (fun _ => x_tup (x_acons (x_var 4) (x_acons (x_var 5) (x_acons x_str (x_acons (x_var 7) (x_acons (x_var 8) x_anil)))))) x_non (t := { t with y := .plain })) fun v H1 e1 h => q v H1 e1 ?_
    rw [put_y] at h
    exact h
  | z =>
    refine s_if (t_is (t_eqS (x_var 1) x_str) (b' := false) (by decide)) (fun e => nomatch e) fun _ => s_then ?_
    refine s_if (t_is (t_eqS (x_var 1) x_str) (b' := false) (by decide)) (fun e => nomatch e) fun _ => s_then ?_
    refine s_retP (xp_st (t_is (t_eqS (x_var 7) x_str) (z_new t.z)) (fun _ => x_tup (x_acons (x_var 4) (x_acons (x_var 5) (x_acons (x_var 6) (x_acons x_str (x_acons (x_var 8) x_anil)))))) x_non (t := { t with z := true })) fun v H1 e1 h => q v H1 e1 h
/-! ### turned -/
def turnO (c : Cf) (o : O3) (s : Lsm.S) : Option Lsm.S := if s.x.here && !o.same s.p && Lsm.refer c.turn o s && !(!s.x.isPlain && c.hold) && !(s.p.isY && (s.y.isMarked || s.y.isGone) && c.keep) then some { s with p := o } else none
def spTurn (K : PySem.W.Frag) : Sp := fun vs H Q _ => ∃ w W x o p t, vs = [.ref w, .str (oS o), .ref p] ∧ CwAt K H w W x ∧ H p = some (.tup (stV x.c.fall t)) ∧ ∀ v H', Ex H H' → StR x.c.fall (turnO (cfg W x) o t) v H' → Q v H'
theorem v_turn {H : Hp} {w p : Addr} {W : Wd} {x : Wx} {o : O3} {t : Lsm.S} (h : CwAt K H w W x) (hp : H p = some (.tup (stV x.c.fall t))) : PP (spTurn K) [.ref w, .str (oS o), .ref p] H (StR x.c.fall (turnO (cfg W x) o t)) := fun H1 e Q q => ⟨w, W, x, o, p, t, rfl, h.mono e, e _ _ hp, q⟩
theorem ok_turn (T : Tf K mg) : C8.Met P w K mg base 5 (cW K) "turned" (spTurn K) [] := by
  refine met_of (N := ["self", "owner", "state", "x", "present", "y", "z", "letters"]) T.m_W_turned (by decide +kernel) (fun vs H Q E ⟨w, W, x, o, p, t, e, _⟩ => by rw [e]; rfl) fun f cdv A outer sh H vs Q E hr nd h => ?_
  obtain ⟨w, W, x, o, p, t, rfl, hW, hp, q⟩ := h
  have wa := hW.wa
  have byw : ∀ {H'}, Ex H H' → ∀ {X : Cx} {σ : L2.St} {p1 p2 p3 : Pos} (h0 : XE X (.Name "self" p1) σ H' (.ref w)) (hK : X.K = K := by rfl) (hb1 : attributeBase (.Name "self" p1) "by" X.env (eval (.Name "self" p1) X.env) = eval (.Name "self" p1) X.env := by rfl) (hb2 : attributeBase (.Attribute (.Name "self" p1) "by" p2) "word" X.env (eval (.Attribute (.Name "self" p1) "by" p2) X.env) = eval (.Attribute (.Name "self" p1) "by" p2) X.env := by rfl), XE X (.Attribute (.Attribute (.Name "self" p1) "by" p2) "word" p3) σ H' (.str x.c.word) := fun e X σ p1 p2 p3 h0 hK hb1 hb2 => by
    subst hK
    exact x_fld (x_fld h0 (hW.mono e).wa.hw T.cl_W T.nW_by hW.g1 hb1) (hW.mono e).hc T.cl_C T.nC_word (colF_word _) hb2
  refine XS.run (s_un5 3 4 5 6 7 (x_var 2) (st_of hp) ?_)
  refine s_if (t_w (w_or (x_nhereT T (ha := x_var 3)) fun _ => w_or (t_is (t_eqS (x_var 1) (x_var 4)) (o_same o t.p)) fun _ => w_or1 (t_not (t_val (x_meth (ok_refer T) hr (x_var 0) wa.hw hW.ln (x_acons x_str (x_acons (x_var 1) (x_acons (x_var 2) x_anil))) (v_refer hW hp (by decide))))))) (fun hb => s_ret x_non fun H1 e1 => q _ H1 e1 ?_) fun hb1 => s_then ?_
  · have : turnO (cfg W x) o t = none := by
      unfold turnO
      rw [if_neg]
      intro h
      simp only [Bool.and_eq_true, Bool.not_eq_true', Bool.or_eq_true] at h hb
      obtain ⟨⟨⟨⟨h1, h2⟩, h3⟩, _⟩, _⟩ := h
      rcases hb with hb | hb | hb
      · rw [hb] at h1; cases h1
      · rw [hb] at h2; cases h2
      · have h3 : Lsm.refer (W.B.has "turn" x.c.word) o t = true := h3
        rw [hb] at h3; cases h3
    rw [this]
    rfl
  refine s_if (t_w (w_and (t_is (t_neS (x_var 3) x_str) x_ne) fun _ => w_and1 (t_val (x_meth (ok_has T (wc_W T) T.m_W_has) hr (x_var 0) wa.hw hW.ln (x_acons x_str (x_acons (byw (Ex.refl _) (x_var 0)) x_anil)) (v_has wa (by decide) hW.lw))))) (fun hb => s_ret x_non fun H1 e1 => q _ H1 e1 ?_) fun hb2 => s_then ?_
  · have : turnO (cfg W x) o t = none := by
      unfold turnO
      rw [if_neg]
      intro h
      have hb' : (!t.x.isPlain && (cfg W x).hold) = true := hb
      rw [hb'] at h
      simp at h
    rw [this]
    rfl
  refine s_if (t_w (w_and (t_is (t_eqS (x_var 4) x_str) (o_y t.p)) fun _ => w_and (t_is (t_inU (x_var 5) (x_tup (x_acons x_str (x_acons x_str x_anil)))) (y_mg t.y)) fun _ => w_and1 (t_val (x_meth (ok_has T (wc_W T) T.m_W_has) hr (x_var 0) wa.hw hW.ln (x_acons x_str (x_acons (byw (Ex.refl _) (x_var 0)) x_anil)) (v_has wa (by decide) hW.lw))))) (fun hb => s_ret x_non fun H1 e1 => q _ H1 e1 ?_) fun hb3 => s_then ?_
  · have : turnO (cfg W x) o t = none := by
      unfold turnO
      rw [if_neg]
      intro h
      have hb' : (t.p.isY && ((t.y.isMarked || t.y.isGone) && (cfg W x).keep)) = true := hb
      rw [← Bool.and_assoc] at hb'
      rw [hb'] at h
      simp at h
    rw [this]
    rfl
  refine s_retP (xp_u (x_tup (x_acons (x_var 3) (x_acons (x_var 1) (x_acons (x_var 5) (x_acons (x_var 6) (x_acons (x_var 7) x_anil))))))) fun v H1 e1 h => q v H1 e1 ?_
  have : turnO (cfg W x) o t = some { t with p := o } := by
    unfold turnO
    have hb1 : (!t.x.here || (o.same t.p || !Lsm.refer (cfg W x).turn o t)) = false := hb1
    have hb2 : (!t.x.isPlain && (cfg W x).hold) = false := hb2
    have hb3 : (t.p.isY && ((t.y.isMarked || t.y.isGone) && (cfg W x).keep)) = false := hb3
    rw [← Bool.and_assoc] at hb3
    simp only [Bool.or_eq_false_iff, Bool.not_eq_false'] at hb1
    rw [hb2, hb3, hb1.1, hb1.2.1, hb1.2.2]
    rfl
  rw [this]
  exact h
/-! ### marked_behind -/
inductive M3 where | my | sx | mx
def mV : M3 → List V | .my => [.str "mark", .str "y"] | .sx => [.str "strike", .str "x"] | .mx => [.str "mark", .str "x"]
def markO (c : Cf) (m : M3) (s : Lsm.S) : Option Lsm.S := match m with
  | .my => if s.y.isPlain && Lsm.mayMark c s.l then some { s with y := .marked } else none
  | .sx => if c.opK && (s.x.isPlain || s.x.isMarked) then some { s with x := .other } else none
  | .mx => if s.x.isPlain && c.oth && (s.l.isE || !c.lone) then some { s with x := .other } else none
def spMark (K : PySem.W.Frag) : Sp := fun vs H Q _ => ∃ w W x m l p t, vs = [.ref w, .ref l, .ref p] ∧ CwAt K H w W x ∧ H l = some (.tup (mV m)) ∧ H p = some (.tup (stV x.c.fall t)) ∧ ∀ v H', Ex H H' → StR x.c.fall (markO (cfg W x) m t) v H' → Q v H'
theorem v_mark {H : Hp} {w l p : Addr} {W : Wd} {x : Wx} {m : M3} {t : Lsm.S} (h : CwAt K H w W x) (hl : H l = some (.tup (mV m))) (hp : H p = some (.tup (stV x.c.fall t))) : PP (spMark K) [.ref w, .ref l, .ref p] H (StR x.c.fall (markO (cfg W x) m t)) := fun H1 e Q q => ⟨w, W, x, m, l, p, t, rfl, h.mono e, e _ _ hl, e _ _ hp, q⟩
theorem CwAt.open_ {H : Hp} {w : Addr} {W : Wd} {x : Wx} (h : CwAt K H w W x) {k : Str} (hk : k ∈ W.B.kN) : DGet H W.a.d1 (.str k) (some (.bl (W.B.isOpen k))) := by
  have g := get_s (k := k) (.inl h.wa.hB.hk : Rd H W.a.d1 (.dK (kindD W.B.kinds)))
  rw [open_val h.wa.O hk] at g
  exact g
theorem CwAt.khome {H : Hp} {w : Addr} {W : Wd} {x : Wx} (h : CwAt K H w W x) : x.c.home ∈ W.B.kN := (h.wa.O.cs _ h.mc).2.1
theorem CwAt.kgoal {H : Hp} {w : Addr} {W : Wd} {x : Wx} (h : CwAt K H w W x) : x.c.goal ∈ W.B.kN := (h.wa.O.cs _ h.mc).2.2
theorem ov_isSome {H : Hp} {w : Addr} {W : Wd} {x : Wx} (h : CwAt K H w W x) : (!decide (x.ov = .non)) = x.oc.isSome := by
  have := h.ho
  cases e : x.oc with
  | none =>
    rw [e] at this
    rw [this]
    rfl
  | some c =>
    rw [e] at this
    obtain ⟨⟨p, dx, h1, _⟩, _⟩ := this
    rw [h1]
    rfl
theorem ok_mark (T : Tf K mg) : C8.Met P w K mg base 4 (cW K) "marked_behind" (spMark K) [] := by
  refine met_of (N := ["self", "label", "state", "x", "present", "y", "z", "letters", "may_be"]) T.m_W_marked_behind (by decide +kernel) (fun vs H Q E ⟨w, W, x, m, l, p, t, e, _⟩ => by rw [e]; rfl) fun f cdv A outer sh H vs Q E hr nd h => ?_
  obtain ⟨w, W, x, m, l, p, t, rfl, hW, hl, hp, q⟩ := h
  have wa := hW.wa
  refine XS.run (s_un5 3 4 5 6 7 (x_var 2) (st_of hp) ?_)
  cases m with
  | my =>
    refine s_if (t_is (t_eqS (x_ixT (x_var 1) x_int (st_of hl) rfl) x_str) (b' := true) (by decide)) (fun _ => ?_) (fun e => nomatch e)
    refine s_retP (xp_st (t_w (w_and (t_is (t_eqS (x_var 5) x_str) (y_plain t.y)) fun _ => w_and1 (t_val (x_meth (ok_may_mark T (wc_W T) T.m_W_may_mark) hr (x_var 0) wa.hw hW.ln (x_acons (x_fld (x_var 0) wa.hw T.cl_W T.nW_goal hW.g2) (x_acons (x_var 7) x_anil)) (v_mayMark wa hW.kgoal))))) (fun _ => x_tup (x_acons (x_var 3) (x_acons (x_var 4) (x_acons x_str (x_acons (x_var 6) (x_acons (x_var 7) x_anil)))))) x_non (t := { t with y := .marked })) fun v H1 e1 h => q v H1 e1 ?_
    have e2 : Lsm.mayMark (cfg W x) t.l = W.mayMark x.c.goal t.l := by
      unfold Lsm.mayMark Wd.mayMark
      rw [Bool.or_assoc]
      rfl
    unfold markO
    rw [e2]
    exact h
  | sx =>
    refine s_if (t_is (t_eqS (x_ixT (x_var 1) x_int (st_of hl) rfl) x_str) (b' := false) (by decide)) (fun e => nomatch e) fun _ => s_then ?_
    have hk : W.home ∈ W.B.kN := by rw [hW.eh]; exact hW.khome
    refine s_if (t_is (t_eqS (x_ixT (x_var 1) x_int (st_of hl) rfl) x_str) (b' := true) (by decide)) (fun _ => ?_) (fun e => nomatch e)
    refine s_set 8 (x_and (x_dget hr (x_fld (x_fld (x_var 0) wa.hw T.cl_W T.nW_law_book wa.f1) wa.hB.hb T.cl_B T.nB_open_kinds bkF_1) (x_fld (x_var 0) wa.hw T.cl_W T.nW_home wa.f2) (hW.open_ hk)) fun _ => x_one (x_b (x_inU (x_var 3) (x_tup (x_acons x_str (x_acons x_str x_anil)))) (x_pm t.x))) (s_then ?_)
    refine s_retP (xp_st (t_val (x_var 8)) (fun _ => x_tup (x_acons x_str (x_acons (x_var 4) (x_acons (x_var 5) (x_acons (x_var 6) (x_acons (x_var 7) x_anil)))))) x_non (t := { t with x := .other })) fun v H1 e1 h => q v H1 e1 ?_
    rw [hW.eh] at h
    exact h
  | mx =>
    refine s_if (t_is (t_eqS (x_ixT (x_var 1) x_int (st_of hl) rfl) x_str) (b' := false) (by decide)) (fun e => nomatch e) fun _ => s_then ?_
    refine s_if (t_is (t_eqS (x_ixT (x_var 1) x_int (st_of hl) rfl) x_str) (b' := false) (by decide)) (fun e => nomatch e) fun _ => ?_
    refine s_set 8 (x_and (x_b (x_eqS (x_var 3) x_str) (x_plain t.x)) fun _ => x_and (x_b (x_notN (x_fld (x_var 0) wa.hw T.cl_W T.nW_other_column hW.g3) x_non) (ov_isSome hW)) fun _ => x_one (x_or (x_b (x_eqS (x_var 7) x_str) (l_e x.c.fall t.l)) fun _ => x_one (x_niOwn (ok_cont T) hr x_str (x_fld (x_var 0) wa.hw T.cl_W T.nW_law_book wa.f1) wa.hB.hb (v_cont wa.hB)))) (s_then ?_)
    refine s_retP (xp_st (t_val (x_var 8)) (fun _ => x_tup (x_acons x_str (x_acons (x_var 4) (x_acons (x_var 5) (x_acons (x_var 6) (x_acons (x_var 7) x_anil)))))) x_non (t := { t with x := .other })) fun v H1 e1 h => q v H1 e1 ?_
    unfold markO
    rw [Bool.and_assoc]
    exact h
end
end Ls
/-! LsW4 -/
set_option Elab.async false
set_option linter.all false
set_option maxRecDepth 100000
namespace Ls
open PySem PySem.Spec PyProof.Rows L2 Lx
open Evl (Ex Ex.refl Ex.trans Ex.mut Ex.new Ev EvT EvL EvU EvA ex_l ex_t ex_rd sq_of st_of sz_of sz_lt fresh_back)
open Lsm (X5 O3 Y4 L10 Le Wr Lb Qn Cf)
def kx : Le → Bool | .x => true | _ => false
def ky : Le → Bool | .y => true | _ => false
def kc (f : Bool) : Le → Bool | .a => !f | _ => false
def ks (f : Bool) : Le → Bool | .a => f | _ => false
theorem k_x (f : Bool) (k : Le) : decide (kS f k = "X") = kx k := by cases k <;> cases f <;> decide
theorem k_y (f : Bool) (k : Le) : decide (kS f k = "Y") = ky k := by cases k <;> cases f <;> decide
theorem k_c (f : Bool) (k : Le) : decide (kS f k = "C") = kc f k := by cases k <;> cases f <;> decide
theorem k_s (f : Bool) (k : Le) : decide (kS f k = "S") = ks f k := by cases k <;> cases f <;> decide
section
variable {P : Program} {w : World} {K : PySem.W.Frag} {mg : Str → Option Value} {base : Heap}
theorem x_hereV {T' : Tf K mg} {a : Expr} {pos : Pos} {σ : L2.St} {H : Hp} {x : X5} {X : Cx} (hK : X.K = K := by rfl) (hmg : X.mg = mg := by rfl) (ha : XE X a σ H (.str (xS x))) {pz : Pos} (hg : Gl X "HERE" := by rfl) : XE X (.Compare a [.In] [.Name "HERE" pz] pos) σ H (.bl x.here) := by
  subst hK
  subst hmg
  obtain ⟨h, e, ht⟩ := T'.t_HERE
  exact x_b (x_inT ha (x_glob (v := .ref h) e rfl hg (by decide)) (ht H) rfl rfl rfl) (x_here x)
/-! ### fitting -/
def spFit (K : PySem.W.Frag) : Sp := fun vs H Q _ => ∃ w W x k p t, vs = [.ref w, .str (kS x.c.fall k), .ref p] ∧ CwAt K H w W x ∧ H p = some (.tup (stV x.c.fall t)) ∧ ∀ H', Ex H H' → Q (.bl (Lsm.fits (cfg W x) k t)) H'
theorem v_fit {H : Hp} {w p : Addr} {W : Wd} {x : Wx} {k : Le} {t : Lsm.S} (h : CwAt K H w W x) (hp : H p = some (.tup (stV x.c.fall t))) : PV (spFit K) [.ref w, .str (kS x.c.fall k), .ref p] H (.bl (Lsm.fits (cfg W x) k t)) := fun H1 e Q q => ⟨w, W, x, k, p, t, rfl, h.mono e, e _ _ hp, q⟩
theorem ok_fit (T : Tf K mg) : C8.Met P w K mg base 4 (cW K) "fitting" (spFit K) [] := by
  refine met_of (N := ["self", "letter", "state", "x", "present", "y", "z", "letters"]) T.m_W_fitting (by decide +kernel) (fun vs H Q E ⟨w, W, x, k, p, t, e, _⟩ => by rw [e]; rfl) fun f cdv A outer sh H vs Q E hr nd h => ?_
  obtain ⟨w, W, x, k, p, t, rfl, hW, hp, q⟩ := h
  have wa := hW.wa
  refine XS.run (s_un5 3 4 5 6 7 (x_var 2) (st_of hp) ?_)
  refine s_if (t_is (t_eqS (x_var 1) x_str) (k_x x.c.fall k)) (fun hb => ?_) fun hbx => s_then ?_
  · have ek : k = .x := by cases k <;> first | rfl | cases hb
    subst ek
    exact s_ret (x_b (x_inU (x_var 3) (x_tup (x_acons x_str (x_acons x_str x_anil)))) (x_mo t.x)) q
  refine s_if (t_is (t_eqS (x_var 1) x_str) (k_s x.c.fall k)) (fun hb => ?_) fun hbs => s_then ?_
  · have ek : k = .a ∧ x.c.fall = true := by cases k <;> first | exact ⟨rfl, hb⟩ | cases hb
    obtain ⟨rfl, ef⟩ := ek
    refine s_ret (x_and (x_b (x_eqS (x_var 3) x_str) (x_plain t.x)) fun _ => x_and (x_b (x_eqS (x_var 4) x_str) (o_y t.p)) fun _ => x_one (x_b (x_eqS (x_var 5) x_str) (y_marked t.y))) fun H1 e1 => ?_
    have := q H1 e1
    unfold Lsm.fits at this
    rw [Bool.and_assoc] at this
    simp only [cfg, ef, if_true] at this
    exact this
  refine s_if (t_is (t_eqS (x_var 1) x_str) (k_c x.c.fall k)) (fun hb => ?_) fun hbc => s_then ?_
  · have ek : k = .a ∧ x.c.fall = false := by cases k <;> first | exact ⟨rfl, by simpa [kc] using hb⟩ | cases hb
    obtain ⟨rfl, ef⟩ := ek
    refine s_ret (x_and (x_hereV (T' := T) (ha := x_var 3)) fun _ => x_and (x_b (x_eqS (x_var 4) x_str) (o_y t.p)) fun _ => x_one (x_b (x_eqS (x_var 5) x_str) (y_marked t.y))) fun H1 e1 => ?_
    have := q H1 e1
    unfold Lsm.fits at this
    rw [Bool.and_assoc] at this
    simp only [cfg, ef, Bool.false_eq_true, if_false] at this
    exact this
  have ek : k = .y := by
    cases k with
    | y => rfl
    | x => cases hbx
    | a =>
      have h1 : x.c.fall = false := hbs
      have h2 : (!x.c.fall) = false := hbc
      rw [h1] at h2
      cases h2
  subst ek
  refine s_if (t_w (w_or (t_is (t_neS (x_var 5) x_str) (congrArg (!·) (y_marked t.y))) fun _ => w_or1 (t_w (w_and (t_is (t_eqS (x_var 4) x_str) (o_y t.p)) fun _ => w_and (x_hereT T (ha := x_var 3)) fun _ => w_and1 (t_val (x_meth (ok_has T (wc_W T) T.m_W_has) hr (x_var 0) wa.hw hW.ln (x_acons x_str (x_acons (x_fld (x_var 0) wa.hw T.cl_W T.nW_goal hW.g2) x_anil)) (v_has wa (by decide) (hW.lkind hW.kgoal)))))))) (fun hb => s_ret x_bl fun H1 e1 => ?_) fun hb => s_then ?_
  · have := q H1 e1
    unfold Lsm.fits at this
    have hb' : (!t.y.isMarked || (t.p.isY && (t.x.here && (cfg W x).bare))) = true := hb
    rw [← Bool.and_assoc] at hb'
    rw [hb'] at this
    exact this
  · refine s_ret (x_not (x_and (x_b (x_eqS (x_var 4) x_str) (o_y t.p)) fun _ => x_and (x_b (x_eqS (x_var 3) x_str) (x_plain t.x)) fun _ => x_one (x_meth (ok_has T (wc_W T) T.m_W_has) hr (x_var 0) wa.hw hW.ln (x_acons x_str (x_acons (x_fld (x_var 0) wa.hw T.cl_W T.nW_goal hW.g2) x_anil)) (v_has wa (by decide) (hW.lkind hW.kgoal))))) fun H1 e1 => ?_
    have := q H1 e1
    unfold Lsm.fits at this
    have hb' : (!t.y.isMarked || (t.p.isY && (t.x.here && (cfg W x).bare))) = false := hb
    rw [← Bool.and_assoc] at hb'
    rw [hb', Bool.not_false, Bool.true_and] at this
    have this : Q (.bl (!(t.p.isY && t.x.isPlain && (cfg W x).calm))) H1 := this
    rw [Bool.and_assoc] at this
    exact this
/-! ### looked -/
def lookO (c : Cf) (k : Le) (s : Lsm.S) : Option Lsm.S := match Lsm.more c s.l k with
  | none => none
  | some l => if Lsm.fits c k s then some { s with l := l } else none
def spLook (K : PySem.W.Frag) : Sp := fun vs H Q _ => ∃ w W x k p t, vs = [.ref w, .str (kS x.c.fall k), .ref p] ∧ CwAt K H w W x ∧ H p = some (.tup (stV x.c.fall t)) ∧ ∀ v H', Ex H H' → StR x.c.fall (lookO (cfg W x) k t) v H' → Q v H'
theorem v_look {H : Hp} {w p : Addr} {W : Wd} {x : Wx} {k : Le} {t : Lsm.S} (h : CwAt K H w W x) (hp : H p = some (.tup (stV x.c.fall t))) : PP (spLook K) [.ref w, .str (kS x.c.fall k), .ref p] H (StR x.c.fall (lookO (cfg W x) k t)) := fun H1 e Q q => ⟨w, W, x, k, p, t, rfl, h.mono e, e _ _ hp, q⟩
theorem ok_look (T : Tf K mg) : C8.Met P w K mg base 5 (cW K) "looked" (spLook K) [] := by
  refine met_of (N := ["self", "letter", "state", "more"]) T.m_W_looked (by decide +kernel) (fun vs H Q E ⟨w, W, x, k, p, t, e, _⟩ => by rw [e]; rfl) fun f cdv A outer sh H vs Q E hr nd h => ?_
  obtain ⟨w, W, x, k, p, t, rfl, hW, hp, q⟩ := h
  have wa := hW.wa
  refine XS.run (s_set 3 (x_meth (ok_with T (wc_W T) T.m_W_with_letter) hr (x_var 0) wa.hw hW.ln (x_acons (x_ixT (x_var 2) x_int (st_of hp) rfl) (x_acons (x_var 1) x_anil)) (v_with (f := x.c.fall) (l := t.l) (k := k) wa)) ?_)
  have em : Lsm.more (cfg W x) t.l k = W.B.more t.l k := rfl
  unfold lookO at q
  rw [em] at q
  cases hm : W.B.more t.l k with
  | none =>
    rw [hm] at q
    refine s_retP (xp_ifE (b := true) (P := StR x.c.fall none) (t_is (t_w (w_or (b' := true) (t_is (t_isN (x_var 3) x_non) (b' := true) rfl) fun h => nomatch h)) (b' := true) rfl) (fun _ => xp_e x_non) (fun e => nomatch e)) fun v H1 e1 h => q v H1 e1 h
  | some l =>
    rw [hm] at q
    simp only at q
    refine s_retP (xp_ifE (b := !Lsm.fits (cfg W x) k t) (P := StR x.c.fall (if Lsm.fits (cfg W x) k t = true then some { t with l := l } else none)) (t_is (t_w (w_or (t_isN (x_var 3) x_non) fun _ => w_or1 (t_not (t_val (x_meth (ok_fit T) hr (x_var 0) wa.hw hW.ln (x_acons (x_var 1) (x_acons (x_var 2) x_anil)) (v_fit hW hp)))))) rfl) (fun hb => ?_) (fun hb => ?_)) fun v H1 e1 h => q v H1 e1 h
    · rw [Bool.not_eq_true'] at hb
      rw [hb]
      exact xp_e x_non
    · rw [Bool.not_eq_false'] at hb
      rw [hb]
      exact xp_u (x_tup (x_starU (x_slTo (k := 4) (x_var 2) (st_of hp) rfl (by exact Nat.le_of_ble_eq_true rfl)) (x_acons (x_var 3) x_anil)))
/-! ### done_behind -/
def PrR (f : Bool) (t : Lsm.S) (w : Str) : V → Hp → Prop := fun v H => ∃ p q, v = .ref p ∧ H p = some (.tup [.ref q, .str w]) ∧ H q = some (.tup (stV f t))
def doneO (c : Cf) (k : Le) (s : Lsm.S) : Lsm.S × Wr := if Lsm.ag c k && !Lsm.fits c k s then (s, .no) else Lsm.did c.fall k s
def spDone (K : PySem.W.Frag) : Sp := fun vs H Q _ => ∃ w W x k p t, vs = [.ref w, .str (kS x.c.fall k), .ref p] ∧ CwAt K H w W x ∧ H p = some (.tup (stV x.c.fall t)) ∧ ∀ v H', Ex H H' → PrR x.c.fall (doneO (cfg W x) k t).1 (wS (doneO (cfg W x) k t).2) v H' → Q v H'
theorem v_done {H : Hp} {w p : Addr} {W : Wd} {x : Wx} {k : Le} {t : Lsm.S} (h : CwAt K H w W x) (hp : H p = some (.tup (stV x.c.fall t))) : PP (spDone K) [.ref w, .str (kS x.c.fall k), .ref p] H (PrR x.c.fall (doneO (cfg W x) k t).1 (wS (doneO (cfg W x) k t).2)) := fun H1 e Q q => ⟨w, W, x, k, p, t, rfl, h.mono e, e _ _ hp, q⟩
def nmOf (x : Wx) : Le → Str | .a => x.c.word | .x => x.c.home | .y => x.c.goal
theorem xp_stp {X : Cx} {a c : Expr} {pos : Pos} {σ : L2.St} {H : Hp} {f : Bool} {t : Lsm.S} {wt : Str} {y1 : Nat} (h1 : XP X a σ H (fun v H2 => ∃ p, v = .ref p ∧ H2 p = some (.tup (stV f t)))) (h2 : XE X c σ H (.str wt))
    (hs : starEach (a :: [c]) X.env = (false, eval a X.env) :: starEach [c] X.env := by rfl) (hs2 : starEach [c] X.env = (false, eval c X.env) :: starEach [] X.env := by rfl) : XP X (.Tuple [a, c] y1 pos) σ H (PrR f t wt) := by
  have m : ∀ v H1 H2, Ex H1 H2 → (∃ p, v = V.ref p ∧ H1 p = some (HO.tup (stV f t))) → ∃ p, v = V.ref p ∧ H2 p = some (HO.tup (stV f t)) := by
    intro v H1 H2 e h
    obtain ⟨p, h, hp⟩ := h
    exact ⟨p, h, e _ _ hp⟩
  refine xp_imp (xp_pair h1 m h2 hs hs2) ?_
  intro v H2 _ h
  obtain ⟨p, u, h1, h2, q, h3, h4⟩ := h
  subst h3
  exact ⟨p, q, h1, h2, h4⟩
set_option maxHeartbeats 1000000 in
theorem ok_done (T : Tf K mg) : C8.Met P w K mg base 5 (cW K) "done_behind" (spDone K) [] := by
  refine met_of (N := ["self", "letter", "state", "name", "has_reason", "x", "present", "y", "z", "letters"]) T.m_W_done_behind (by decide +kernel) (fun vs H Q E ⟨w, W, x, k, p, t, e, _⟩ => by rw [e]; rfl) fun f cdv A outer sh H vs Q E hr nd h => ?_
  obtain ⟨w, W, x, k, p, t, rfl, hW, hp, q⟩ := h
  have wa := hW.wa
  refine XS.run (s_un5 5 6 7 8 9 (x_var 2) (st_of hp) ?_)
  refine s_set 3 (v := .str (nmOf x k)) (x_dgetN hr (xn_disp (kvs := [(Sum.inr "S", .str x.c.word), (Sum.inr "C", .str x.c.word), (Sum.inr "X", .str W.home), (Sum.inr "Y", .str x.c.goal)]) (d_cons x_str (x_fld (x_fld (x_var 0) wa.hw T.cl_W T.nW_by hW.g1) hW.hc T.cl_C T.nC_word (colF_word _)) (d_cons x_str (x_fld (x_fld (x_var 0) wa.hw T.cl_W T.nW_by hW.g1) hW.hc T.cl_C T.nC_word (colF_word _)) (d_cons x_str (x_fld (x_var 0) wa.hw T.cl_W T.nW_home wa.f2) (d_cons x_str (x_fld (x_var 0) wa.hw T.cl_W T.nW_goal hW.g2) d_nil)))) rfl) (x_var 1) (fun p H2 h => .inl h) (kk := Sum.inr (kS x.c.fall k)) rfl ?_) ?_
  · rw [hW.eh]
    cases k <;> cases x.c.fall <;> rfl
  have hag : W.B.has "again" (nmOf x k) = Lsm.ag (cfg W x) k := by cases k <;> rfl
  have ln : (nmOf x k).length ≤ 100 := by
    cases k with
    | a => exact hW.lw
    | x => exact hW.lkind hW.khome
    | y => exact hW.lkind hW.kgoal
  have own : ∀ {X : Cx} {σ : L2.St} {p1 : Pos} {n : Str}, XE X (.Name n p1) σ H (.ref p) → XP X (.Name n p1) σ H (fun v H2 => ∃ p, v = .ref p ∧ H2 p = some (.tup (stV x.c.fall t))) := fun h => xp_imp (xp_e h) fun v H2 e ev => ⟨p, ev, e _ _ hp⟩
  refine s_if (t_w (w_and (t_is (t_val (x_meth (ok_has T (wc_W T) T.m_W_has) hr (x_var 0) wa.hw hW.ln (x_acons x_str (x_acons (x_var 3) x_anil)) (v_has wa (by decide) ln))) hag) fun _ => w_and1 (t_not (t_val (x_meth (ok_fit T) hr (x_var 0) wa.hw hW.ln (x_acons (x_var 1) (x_acons (x_var 2) x_anil)) (v_fit hW hp)))))) (fun hb => ?_) fun hb => s_then ?_
  · have e : doneO (cfg W x) k t = (t, .no) := if_pos hb
    rw [e] at q
    exact s_retP (xp_stp (own (x_var 2)) x_str) q
  have e : doneO (cfg W x) k t = Lsm.did x.c.fall k t := if_neg (by rw [hb]; exact Bool.false_ne_true)
  rw [e] at q
  refine s_if (t_is (t_eqS (x_var 1) x_str) (k_s x.c.fall k)) (fun hb => ?_) fun hbs => s_then ?_
  · have ek : k = .a ∧ x.c.fall = true := by cases k <;> first | exact ⟨rfl, hb⟩ | cases hb
    obtain ⟨rfl, ef⟩ := ek
    refine s_retP (xp_stp (f := x.c.fall) (t := { t with x := if t.x.isPlain then .marked else t.x }) (xp_u (x_tup (x_acons (x_ifE (v := .str (xS (if t.x.isPlain then .marked else t.x))) (t_is (t_eqS (x_var 5) x_str) (x_plain t.x)) (fun h => by rw [if_pos h]; exact x_str) fun h => by rw [if_neg (by rw [h]; exact Bool.false_ne_true)]; exact x_var 5) (x_acons (x_var 6) (x_acons (x_var 7) (x_acons (x_var 8) (x_acons (x_var 9) x_anil))))))) x_str) fun v H1 e1 h => q v H1 e1 ?_
    unfold Lsm.did
    rw [ef] at h ⊢
    exact h
  refine s_if (t_is (t_eqS (x_var 1) x_str) (k_y x.c.fall k)) (fun hb => ?_) fun hby => s_then ?_
  · have ek : k = .y := by cases k <;> first | rfl | cases hb
    subst ek
    exact s_retP (xp_stp (f := x.c.fall) (t := { t with y := if t.y.isPlain || t.y.isMarked then .gone else t.y }) (xp_u (x_tup (x_acons (x_var 5) (x_acons (x_var 6) (x_acons (x_ifE (v := .str (yS (if t.y.isPlain || t.y.isMarked then .gone else t.y))) (t_is (t_inU (x_var 7) (x_tup (x_acons x_str (x_acons x_str x_anil)))) (y_pm t.y)) (fun h => by rw [if_pos h]; exact x_str) fun h => by rw [if_neg (by rw [h]; exact Bool.false_ne_true)]; exact x_var 7) (x_acons (x_var 8) (x_acons (x_var 9) x_anil))))))) x_str) q
  refine s_if (t_w (w_or (x_nhereT T (ha := x_var 5)) fun _ => w_or1 (t_w (w_and (t_is (t_eqS (x_var 1) x_str) (k_c x.c.fall k)) fun _ => w_and1 (t_is (t_eqS (x_var 6) x_str) (o_no t.p)))))) (fun hb => ?_) fun hbh => s_then ?_
  · have e : Lsm.did x.c.fall k t = (t, .no) := by
      cases k with
      | y => cases hby
      | x =>
        unfold Lsm.did
        have hb' : (!t.x.here || (false && t.p.isNo)) = true := hb
        rw [Bool.false_and, Bool.or_false] at hb'
        exact if_pos hb'
      | a =>
        have ef : x.c.fall = false := hbs
        unfold Lsm.did
        have hb' : (!t.x.here || (!x.c.fall && t.p.isNo)) = true := hb
        rw [ef, Bool.not_false, Bool.true_and] at hb'
        rw [ef]
        exact if_pos hb'
    rw [e] at q
    exact s_retP (xp_stp (own (x_var 2)) x_str) q
  refine s_if (t_is (t_eqS (x_var 1) x_str) (k_c x.c.fall k)) (fun hb => ?_) fun hbc => s_then ?_
  · have ek : k = .a ∧ x.c.fall = false := by cases k <;> first | exact ⟨rfl, by simpa [kc] using hb⟩ | cases hb
    obtain ⟨rfl, ef⟩ := ek
    have e : Lsm.did x.c.fall .a t = ({ t with p := .no }, if t.p.isZ || t.y.isPlain then .spoilt else .no) := by
      unfold Lsm.did
      have hb' : (!t.x.here || (!x.c.fall && t.p.isNo)) = false := hbh
      rw [ef, Bool.not_false, Bool.true_and] at hb'
      rw [ef]
      simp only [Bool.false_eq_true, if_false]
      rw [if_neg (by rw [hb']; exact Bool.false_ne_true)]
    rw [e] at q
    exact s_retP (xp_stp (xp_u (x_tup (x_acons (x_var 5) (x_acons x_str (x_acons (x_var 7) (x_acons (x_var 8) (x_acons (x_var 9) x_anil))))))) (x_ifE (v := .str (wS (if t.p.isZ || t.y.isPlain then .spoilt else .no))) (t_w (w_or (t_is (t_eqS (x_var 6) x_str) (o_z t.p)) fun _ => w_or1 (t_is (t_eqS (x_var 7) x_str) (y_plain t.y)))) (fun h => by rw [if_pos h]; exact x_str) fun h => by rw [if_neg (by rw [h]; exact Bool.false_ne_true)]; exact x_str)) q
  have ek : k = .x := by
    cases k with
    | x => rfl
    | y => cases hby
    | a =>
      have h1 : x.c.fall = false := hbs
      have h2 : (!x.c.fall) = false := hbc
      rw [h1] at h2
      cases h2
  subst ek
  have e : Lsm.did x.c.fall .x t = ({ t with x := .gone, p := .no }, if t.x.isMarked && !(t.p.isY && (t.y.isMarked || t.y.isGone)) then .unjust else .no) := by
    unfold Lsm.did
    have hb' : (!t.x.here || (false && t.p.isNo)) = false := hbh
    rw [Bool.false_and, Bool.or_false] at hb'
    simp only
    rw [if_neg (by rw [hb']; exact Bool.false_ne_true)]
  rw [e] at q
  refine s_set 4 (x_and (x_b (x_eqS (x_var 6) x_str) (o_y t.p)) fun _ => x_one (x_b (x_inU (x_var 7) (x_tup (x_acons x_str (x_acons x_str x_anil)))) (y_mg t.y))) ?_
  exact s_retP (xp_stp (xp_u (x_tup (x_acons x_str (x_acons x_str (x_acons (x_var 7) (x_acons (x_var 8) (x_acons (x_var 9) x_anil))))))) (x_ifE (v := .str (wS (if t.x.isMarked && !(t.p.isY && (t.y.isMarked || t.y.isGone)) then .unjust else .no))) (t_w (w_and (t_is (t_eqS (x_var 5) x_str) (x_marked t.x)) fun _ => w_and1 (t_not (t_val (x_var 4))))) (fun h => by rw [if_pos h]; exact x_str) fun h => by rw [if_neg (by rw [h]; exact Bool.false_ne_true)]; exact x_str)) q
/-! ### is_fault -/
def qS (f : Bool) : Qn → Str | .loose => "loose" | .half => "half" | .wrong => if f then "unjust" else "spoilt"
def Wr.is (f : Bool) : Wr → Bool | .no => false | .spoilt => !f | .unjust => f
def badW (f : Bool) (q : Qn) (t : Lsm.S) (w : Wr) : Bool := match q with
  | .loose => Lsm.lost t && t.x.isPlain
  | .half => Lsm.lost t && t.x.here
  | .wrong => Wr.is f w
def isLoose : Qn → Bool | .loose => true | _ => false
def isHalf : Qn → Bool | .half => true | _ => false
theorem q_loose (f : Bool) (n : Qn) : decide (qS f n = "loose") = isLoose n := by cases n <;> cases f <;> decide
theorem q_half (f : Bool) (n : Qn) : decide (qS f n = "half") = isHalf n := by cases n <;> cases f <;> decide
theorem w_is (f : Bool) (w : Wr) : decide (wS w = qS f .wrong) = Wr.is f w := by cases w <;> cases f <;> decide
def spFault (K : PySem.W.Frag) : Sp := fun vs H Q _ => ∃ w W x n p t r, vs = [.ref w, .str (qS x.c.fall n), .ref p, .str (wS r)] ∧ CwAt K H w W x ∧ H p = some (.tup (stV x.c.fall t)) ∧ ∀ H', Ex H H' → Q (.bl (badW x.c.fall n t r)) H'
theorem v_fault {H : Hp} {w p : Addr} {W : Wd} {x : Wx} {n : Qn} {t : Lsm.S} {r : Wr} (h : CwAt K H w W x) (hp : H p = some (.tup (stV x.c.fall t))) : PV (spFault K) [.ref w, .str (qS x.c.fall n), .ref p, .str (wS r)] H (.bl (badW x.c.fall n t r)) := fun H1 e Q q => ⟨w, W, x, n, p, t, r, rfl, h.mono e, e _ _ hp, q⟩
theorem ok_fault (T : Tf K mg) : C8.Met P w K mg base 1 (cW K) "is_fault" (spFault K) [] := by
  refine met_of (N := ["self", "word", "state", "wrong", "is_lost"]) T.m_W_is_fault (by decide +kernel) (fun vs H Q E ⟨w, W, x, n, p, t, r, e, _⟩ => by rw [e]; rfl) fun f cdv A outer sh H vs Q E hr nd h => ?_
  obtain ⟨w, W, x, n, p, t, r, rfl, hW, hp, q⟩ := h
  refine XS.run (s_set 4 (x_and (x_b (x_eqS (x_ixT (x_var 2) x_int (st_of hp) rfl) x_str) (o_y t.p)) fun _ => x_one (x_b (x_eqS (x_ixT (x_var 2) x_int (st_of hp) rfl) x_str) (y_gone t.y))) ?_)
  refine s_if (t_is (t_eqS (x_var 1) x_str) (q_loose x.c.fall n)) (fun hb => ?_) fun hb => s_then ?_
  · have en : n = .loose := by cases n <;> first | rfl | cases hb
    subst en
    exact s_ret (x_and (x_var 4) fun _ => x_one (x_b (x_eqS (x_ixT (x_var 2) x_int (st_of hp) rfl) x_str) (x_plain t.x))) q
  · refine s_ret (x_ifE (t_is (t_eqS (x_var 1) x_str) (q_half x.c.fall n)) (fun h => ?_) fun h => ?_) q
    · have en : n = .half := by cases n <;> first | rfl | cases h
      subst en
      exact x_and (x_var 4) fun _ => x_one (x_hereV (T' := T) (ha := x_ixT (x_var 2) x_int (st_of hp) rfl))
    · have en : n = .wrong := by cases n <;> first | rfl | exact absurd hb (by decide) | exact absurd h (by decide)
      subst en
      exact x_b (x_eqS (x_var 3) (x_var 1)) (w_is x.c.fall r)
/-! ### begin -/
def spBegin (K : PySem.W.Frag) : Sp := fun vs H Q _ => ∃ (w : Addr), vs = [.ref w] ∧ ∀ p H', H p = none → Ex H H' → H' p = some (.tup (stV true Lsm.s0)) → Q (.ref p) H'
theorem ok_begin (T : Tf K mg) : C8.Met P w K mg base 1 (cW K) "begin" (spBegin K) [] := by
  refine met_of (N := ["self"]) T.m_W_begin (by decide +kernel) (fun vs H Q E ⟨w, e, _⟩ => by rw [e]; rfl) fun f cdv A outer sh H vs Q E hr nd h => ?_
  obtain ⟨w, rfl, q⟩ := h
  exact b_retN' (xn_u (x_tup (x_acons x_str (x_acons x_str (x_acons x_str (x_acons x_str (x_acons x_str x_anil))))))) q
end
end Ls
/-! LsN -/
set_option Elab.async false
set_option linter.all false
set_option maxRecDepth 100000
/-! Readings that know how far the tokens have come: N <= s.toks is carried from step to step. -/
namespace Ln
open PySem PySem.Spec PyProof.Rows L2 Lx
open Evl (Ex Ex.refl Ex.trans Ex.mut Ex.new Ev EvT EvL EvU EvA ex_l ex_t ex_rd sq_of st_of sz_of sz_lt fresh_back)
theorem thnT {α : Type} {t : Sem α} {Q Q' : α → Shared → Prop} {M : Model} {A : Around} {E : Value → Shared → Prop} {s : Shared} {N : Nat} (hn : N ≤ s.toks) (h : wpAny M A t Q E s) (k : ∀ a s', N ≤ s'.toks → Q a s' → Q' a s') : wpAny M A t Q' E s :=
  wpAny_mono (wpAny_toks_of hn h) (fun a s' x => k a s' x.1 x.2) fun _ _ x => x.2
abbrev VN := V → Hp → Nat → Prop
abbrev SN := L2.St → Hp → Nat → Prop
structure EndsN where
  nx : SN
  rt : VN
  bk : SN := fun _ _ _ => False
  ct : SN := fun _ _ _ => False
/-- the ends at a fixed bound -/
def EndsN.at_ (D : EndsN) (N : Nat) : Ends := { nx := fun σ H => D.nx σ H N, rt := fun v H => D.rt v H N, bk := fun σ H => D.bk σ H N, ct := fun σ H => D.ct σ H N }
def EQ (X : Cx) (pins : List (Addr × Obj)) (σ : L2.St) (Q : VN) (u : Value) (s' : Shared) : Prop := ∃ v H' N, N ≤ s'.toks ∧ Inv X pins σ H' s' ∧ RelV v u ∧ Q v H' N
def AQ (X : Cx) (pins : List (Addr × Obj)) (σ : L2.St) (Q : List V → Hp → Nat → Prop) (us : List Value) (s' : Shared) : Prop := ∃ vs H' N, N ≤ s'.toks ∧ Inv X pins σ H' s' ∧ Vals vs us ∧ Q vs H' N
def SQ (X : Cx) (pins : List (Addr × Obj)) (D : EndsN) (f : Flow) (s' : Shared) : Prop := ∃ N, N ≤ s'.toks ∧ SP X pins (D.at_ N) f s'
def eN (X : Cx) (e : Expr) (σ : L2.St) (H : Hp) (N : Nat) (Q : VN) : Prop := ∀ pins s, N ≤ s.toks → Inv X pins σ H s → wpAny (model X.prog X.w) X.A (eval e X.env) (EQ X pins σ Q) X.xe s
def aN (X : Cx) (es : List Expr) (σ : L2.St) (H : Hp) (N : Nat) (Q : List V → Hp → Nat → Prop) : Prop := ∀ (pos : Pos) pins s, N ≤ s.toks → Inv X pins σ H s → wpAny (model X.prog X.w) X.A (spliced (backTo pos (starEach es X.env))) (AQ X pins σ Q) X.xe s
def sN (X : Cx) (st : Stmt) (D : EndsN) (σ : L2.St) (H : Hp) (N : Nat) : Prop := ∀ pins s, N ≤ s.toks → Inv X pins σ H s → wpAny (model X.prog X.w) X.A (exec st X.env) (SQ X pins D) X.xe s
def bN (X : Cx) (sts : List Stmt) (D : EndsN) (σ : L2.St) (H : Hp) (N : Nat) : Prop := ∀ pins s, N ≤ s.toks → Inv X pins σ H s → wpAny (model X.prog X.w) X.A (execs sts X.env) (SQ X pins D) X.xe s
section
variable {X : Cx} {e a c : Expr} {es : List Expr} {st : Stmt} {sts rest els : List Stmt} {σ : L2.St} {H : Hp} {N : Nat} {Q : VN} {D : EndsN} {pos : Pos}
/-! ### what the hand layer knows, at any bound -/
theorem en_e (h : eT X e σ H fun v H' => Q v H' N) : eN X e σ H N Q := fun pins s hn I => thnT hn (h pins s I) fun u s1 n1 ⟨v, H1, I1, r1, q⟩ => ⟨v, H1, N, n1, I1, r1, q⟩
theorem an_a {Q : List V → Hp → Nat → Prop} (h : aT X es σ H fun v H' => Q v H' N) : aN X es σ H N Q := fun pos pins s hn I => thnT hn (h pos pins s I) fun u s1 n1 ⟨v, H1, I1, r1, q⟩ => ⟨v, H1, N, n1, I1, r1, q⟩
theorem sn_s (h : sT X st (D.at_ N) σ H) : sN X st D σ H N := fun pins s hn I => thnT hn (h pins s I) fun f s1 n1 q => ⟨N, n1, q⟩
theorem bn_b (h : bT X sts (D.at_ N) σ H) : bN X sts D σ H N := fun pins s hn I => thnT hn (h pins s I) fun f s1 n1 q => ⟨N, n1, q⟩
theorem en_xp {S : V → Hp → Prop} (h : XP X e σ H S) (k : ∀ v H1, Ex H H1 → S v H1 → Q v H1 N) : eN X e σ H N Q := en_e (h H (Ex.refl H) _ fun v H1 e1 s1 => k v H1 e1 s1)
/-! ### one after another -/
theorem bn_nil (h : D.nx σ H N) : bN X [] D σ H N := fun pins s hn I => wpAny_execs_nil ⟨N, hn, σ, H, I, h⟩
theorem bn_cons (h : sN X st { D with nx := fun σ' H' N' => bN X rest D σ' H' N' } σ H N) : bN X (st :: rest) D σ H N := fun pins s hn I =>
  wpAny_execs_cons (thn (h pins s hn I) fun f s1 ⟨N1, n1, q⟩ => by
    cases f with
    | next =>
      obtain ⟨σ1, H1, I1, q1⟩ := q
      exact q1 pins s1 n1 I1
    | ret v => exact ⟨N1, n1, q⟩
    | brk => exact ⟨N1, n1, q⟩
    | cont => exact ⟨N1, n1, q⟩)
/-- a statement of the hand layer ahead -/
theorem bn_step (h : sT X st { (D.at_ N) with nx := fun σ' H' => bN X rest D σ' H' N } σ H) : bN X (st :: rest) D σ H N := bn_cons (sn_s h)
theorem bn_if {b : Bool} (h : XT X c σ H b) (h1 : b = true → ∀ H1, Ex H H1 → bN X sts { D with nx := fun σ' H' N' => bN X rest D σ' H' N' } σ H1 N) (h2 : b = false → ∀ H1, Ex H H1 → bN X els { D with nx := fun σ' H' N' => bN X rest D σ' H' N' } σ H1 N) : bN X (.If c sts els pos :: rest) D σ H N :=
  bn_cons fun pins s hn I => wpAny_If (thnT hn (h H (Ex.refl H) (fun b' H1 => b' = b ∧ Ex H H1) (fun H1 e1 => ⟨rfl, e1⟩) pins s I) fun d s1 n1 ⟨H1, I1, eb, e1⟩ => by
    subst eb
    cases d with
    | true => exact h1 rfl H1 e1 pins s1 n1 I1
    | false => exact h2 rfl H1 e1 pins s1 n1 I1)
theorem bn_ret (h : eN X e σ H N D.rt) : bN X (.Return (some e) pos :: rest) D σ H N :=
  bn_cons fun pins s hn I => wpAny_Return_some (thn (h pins s hn I) fun v s1 ⟨x, H1, N1, n1, I1, r1, q1⟩ => ⟨N1, n1, x, σ, H1, I1, r1, q1⟩)
theorem bn_asg {tg : Expr} {g : TG} (h : eN X e σ H N fun v H1 N1 => g v σ H1 fun σ2 H2 => bN X rest D σ2 H2 N1) (hg : PG X tg g) (hs : swapsWithSole [tg] e pos.line X.env = pure false := by rfl) (hw : swappedStores [tg] e X.env = pure none := by rfl)
    (h1 : (assignEach [tg] X.env).map (·.2) = [assign tg X.env] := by rfl) : bN X (.Assign [tg] e pos :: rest) D σ H N := by
  refine bn_cons fun pins s hn I => wpAny_Assign_stores (thn (h pins s hn I) fun v s1 ⟨x, H1, N1, n1, I1, r1, q1⟩ => ?_) hs hw
  rw [h1]
  exact thnT n1 (hg.run pins s1 σ H1 x v _ I1 r1 q1) fun _ s2 n2 ⟨σ2, H2, I2, q2⟩ => ⟨N1, n2, σ2, H2, I2, q2⟩
/-- while: W by a measure, the slots, the heap, the bound -/
theorem bn_while (W : Nat → SN) (m0 : Nat) (h0 : W m0 σ H N)
    (hs : ∀ m σ' H' N', W m σ' H' N' → ∃ b, XT X c σ' H' b ∧ (b = true → ∀ H1, Ex H' H1 → bN X sts { nx := fun σ2 H2 N2 => ∃ m', m' < m ∧ W m' σ2 H2 N2, rt := D.rt, bk := fun σ2 H2 N2 => bN X rest D σ2 H2 N2, ct := fun σ2 H2 N2 => ∃ m', m' < m ∧ W m' σ2 H2 N2 } σ' H1 N') ∧ (b = false → ∀ H1, Ex H' H1 → bN X rest D σ' H1 N'))
    (hp : PassesOwn (model X.prog X.w) X.A X.env X.xe := by exact PassesOwn.never) : bN X (.While c sts [] pos :: rest) D σ H N := by
  refine bn_cons fun pins s hn I => wpAny_While (codeAny_whileLoop (fun n s' => ∃ σ' H' N', N' ≤ s'.toks ∧ Inv X pins σ' H' s' ∧ W n σ' H' N') ?_ m0 ⟨σ, H, N, hn, I, h0⟩)
  rintro n s1 ⟨σ1, H1, N1, n1, I1, w1⟩
  obtain ⟨b, hb, ht, hf⟩ := hs n σ1 H1 N1 w1
  refine wpAny_passesOwn hp (thnT n1 (hb H1 (Ex.refl H1) (fun b' H2 => b' = b ∧ Ex H1 H2) (fun H2 e2 => ⟨rfl, e2⟩) pins s1 I1) fun d s2 n2 ⟨H2, I2, eb, e2⟩ => ?_)
  subst eb
  cases d with
  | false =>
    rw [if_neg Bool.false_ne_true]
    exact wpAny_execs_nil ⟨N1, n2, σ1, H2, I2, hf rfl H2 e2⟩
  | true =>
    rw [if_pos rfl]
    refine wpAny_passesOwn hp (thn (ht rfl H2 e2 pins s2 n2 I2) fun f s3 ⟨N3, n3, q3⟩ => ?_)
    cases f with
    | next =>
      obtain ⟨σ3, H3, I3, m', hm, w3⟩ := q3
      exact ⟨m', hm, σ3, H3, N3, n3, I3, w3⟩
    | cont =>
      obtain ⟨σ3, H3, I3, m', hm, w3⟩ := q3
      exact ⟨m', hm, σ3, H3, N3, n3, I3, w3⟩
    | brk => exact ⟨N3, n3, q3⟩
    | ret v => exact ⟨N3, n3, q3⟩
/-- for over a list -/
theorem bn_forL {tg iter : Expr} {g : TG} (hg : PG X tg g)
    (h : eN X iter σ H N fun v H1 N1 => ∃ (p : Addr) (xs : List V) (Pv : Nat → SN), v = .ref p ∧ Pv 0 σ H1 N1 ∧ (∀ i σ' H' N', Pv i σ' H' N' → SqL X.K H' p xs) ∧
      (∀ i x σ' H' N', xs[i]? = some x → Pv i σ' H' N' → g x σ' H' fun σ2 H2 => bN X sts { nx := Pv (i + 1), rt := D.rt, bk := fun σ2 H2 N2 => bN X rest D σ2 H2 N2, ct := Pv (i + 1) } σ2 H2 N') ∧ ∀ σ' H' N', Pv xs.length σ' H' N' → bN X rest D σ' H' N')
    (hp : PassesOwn (model X.prog X.w) X.A X.env X.xe := by exact PassesOwn.never) (hc : X.calm = true := by rfl) (hs : ∀ x, foldedSetIterable iter X.env x = pure x := by intro _; rfl) : bN X (.For tg iter sts [] pos :: rest) D σ H N := by
  refine bn_cons fun pins s hn I => wpAny_For (thn (h pins s hn I) fun v s1 ⟨x, H1, N1, n1, I1, r1, p, xs, Pv, ev, p0, pl, stp, dn⟩ => ?_) hs
  subst ev
  cases r1
  obtain ⟨its, rv, pt, hz⟩ := I1.list (pl _ _ _ _ p0)
  refine wpAny_pyIter_list pt.isList ?_
  have It := turn_list (P := X.prog) (w := X.w) (K := X.K) (tg := tg) p s1.heap.objs.size
  have I2 := I1.kept (t' := s1.toks) (h' := s1.heap.push { cls := .type "list_iterator", data := .fields #[.ref p, rawInt 0] }) fun b o e => Heap.get?_push_of_some _ e
  have fp2 : ∀ b ∈ [s1.heap.objs.size], FpOk X pins H1 b := fun b hb => by
    have e : b = s1.heap.objs.size := by simpa using hb
    subst e
    exact I1.fpOk (Nat.le_refl _) (I1.hok.fresh (Nat.le_refl _))
  have stat : ∀ {H' : Hp}, (∀ b ∈ [s1.heap.objs.size], H' b = none) → ∀ b ∈ [s1.heap.objs.size], FpOk X pins H' b := fun hn b hb => ⟨hn b hb, (fp2 b hb).2⟩
  refine codeAny_forLoop_any (fun n s' => ∃ i σ' H' N', N' ≤ s'.toks ∧ Inv X pins σ' H' s' ∧ s'.heap.IsListIter s1.heap.objs.size p i ∧ (∀ b ∈ [s1.heap.objs.size], H' b = none) ∧ n = xs.length - i ∧ i ≤ xs.length ∧ Pv i σ' H' N') ?_ xs.length ⟨0, σ, H1, N1, n1, I2, ⟨_, Heap.get?_push_size _ rfl, rfl, rfl⟩, fun b hb => (fp2 b hb).1, by omega, Nat.zero_le _, p0⟩
  rintro n s3 ⟨i, σ3, H3, N3, n3, I3, st3, fr3, rfl, hi, w3⟩
  by_cases hlt : i < xs.length
  · refine wpAny_passesOwn hp (thnT n3 (It.item X rfl rfl rfl hc i pins s3 σ3 H3 X.xe I3 (stat fr3) st3 ⟨xs, xs[i], pl _ _ _ _ w3, by simp [hlt]⟩) fun r s4 n4 ⟨u, hr, h4⟩ => ?_)
    subst hr
    refine wpAny_passesOwn hp (thnT n4 h4 fun _ s5 n5 ⟨y, H5, I5, r5, y5, st5, fr5⟩ => ?_)
    obtain ⟨eH, y5⟩ := y5
    subst eH
    have I5' := I5.pinned (stat fr5) (It.obj _ _ st5)
    refine wpAny_passesOwn hp (thnT n5 (hg.run _ s5 σ3 H5 y u _ I5' r5 (stp i y σ3 H5 N3 (y5 xs (pl _ _ _ _ w3)) w3)) fun _ s6 n6 ⟨σ6, H6, I6, q6⟩ => ?_)
    refine wpAny_passesOwn hp (thn (q6 _ s6 n6 I6) fun f s7 ⟨N7, n7, q7⟩ => ?_)
    have again : ∀ {σ7 : L2.St} {H7 : Hp}, Inv X (pins ++ pinsAt [s1.heap.objs.size] s5.heap) σ7 H7 s7 → Pv (i + 1) σ7 H7 N7 → ∃ m, m < xs.length - i ∧ ∃ i σ' H' N', N' ≤ s7.toks ∧ Inv X pins σ' H' s7 ∧ s7.heap.IsListIter s1.heap.objs.size p i ∧ (∀ b ∈ [s1.heap.objs.size], H' b = none) ∧ m = xs.length - i ∧ i ≤ xs.length ∧ Pv i σ' H' N' := fun {σ7 H7} I7 w7 => by
      refine ⟨xs.length - (i + 1), by omega, i + 1, σ7, H7, N7, n7, I7.unpinned, It.keep _ _ _ st5 fun b hb o e => (I7.pin (b, o) (List.mem_append_right _ (List.mem_append_right _ (mem_pinsAt hb e)))).1, fun b hb => ?_, rfl, hlt, w7⟩
      obtain ⟨o, e, d⟩ := It.obj _ _ st5 b hb
      exact (I7.pin (b, o) (List.mem_append_right _ (List.mem_append_right _ (mem_pinsAt hb e)))).2.1
    cases f with
    | next => obtain ⟨σ7, H7, I7, w7⟩ := q7; exact again I7 w7
    | cont => obtain ⟨σ7, H7, I7, w7⟩ := q7; exact again I7 w7
    | brk => obtain ⟨σ7, H7, I7, w7⟩ := q7; exact ⟨N7, n7, σ7, H7, I7.unpinned, w7⟩
    | ret v => obtain ⟨x7, σ7, H7, I7, r7, w7⟩ := q7; exact ⟨N7, n7, x7, σ7, H7, I7.unpinned, r7, w7⟩
  · have e : i = xs.length := by omega
    subst e
    refine wpAny_passesOwn hp (thnT n3 (It.done X rfl rfl rfl hc _ pins s3 σ3 H3 X.xe I3 (stat fr3) st3 ⟨xs, pl _ _ _ _ w3, Nat.le_refl _⟩) fun r s4 n4 ⟨hr, I4⟩ => ?_)
    subst hr
    exact wpAny_execs_nil ⟨N3, n4, σ3, H3, I4, dn _ _ _ w3⟩
end
end Ln
/-! LsN2 -/
set_option Elab.async false
set_option linter.all false
set_option maxRecDepth 100000
namespace Ln
open PySem PySem.Spec PyProof.Rows L2 Lx
open Evl (Ex Ex.refl Ex.trans Ex.mut Ex.new Ev EvT EvL EvU EvA ex_l ex_t ex_rd sq_of st_of sz_of sz_lt fresh_back)
/-! ### promises that ask for a bound -/
abbrev SpN := List V → Hp → Nat → VN → Prop
def RN (outer : List Env) (P : Program) (w : World) (H : Hp) (s : Shared) (Q : VN) (r : Result) (s' : Shared) : Prop := ∃ N, N ≤ s'.toks ∧ CR C8.CX0 outer P w H s (fun v H' => Q v H' N) C8.E0 r s'
structure FnT (P : Program) (w : World) (K : PySem.W.Frag) (mg : Str → Option Value) (base : Heap) (k : Nat) (f : Addr) (fd : FuncData) (ps : List Str) (sp : SpN) : Prop where
  len : ∀ vs H N Q, sp vs H N Q → vs.length = ps.length
  run : ∀ (A : Around) (outer : List Env) (s : Shared) (H : Hp) (N : Nat) (args : Args) (us : List Value) (vs : List V) (Q : VN), Room k A → Env0 P w K mg base A outer s H → N ≤ s.toks → BindsTo s fd args (ps.zip us) → Vals vs us → sp vs H N Q →
    codeAny (model P w) A (.call (.ref f) args) (RN outer P w H s Q) s
section
variable {P : Program} {w : World} {K : PySem.W.Frag} {mg : Str → Option Value} {base : Heap}
/-- a promise of the hand layer, at any bound -/
theorem FnT.of {k : Nat} {f : Addr} {fd : FuncData} {ps : List Str} {sp : Sp} (F : FnOk P w K mg base C8.CX0 k f fd ps sp) : FnT P w K mg base k f fd ps (fun vs H N Q => sp vs H (fun v H' => Q v H' N) C8.E0) :=
  ⟨fun vs H N Q h => F.len _ _ _ _ h, fun A outer s H N args us vs Q hr e0 hn hb r h => codeAny_mono (codeAny_toks_of hn (F.run A outer s H args us vs _ _ hr e0 hb r h)) fun r s' x => ⟨N, x.1, x.2⟩⟩
theorem FnT.imp {k : Nat} {f : Addr} {fd : FuncData} {ps : List Str} {sp sp' : SpN} (F : FnT P w K mg base k f fd ps sp) (h : ∀ vs H N Q, sp' vs H N Q → sp vs H N Q) : FnT P w K mg base k f fd ps sp' :=
  ⟨fun vs H N Q q => F.len _ _ _ _ (h _ _ _ _ q), fun A outer s H N args us vs Q hr e0 hn hb r q => F.run A outer s H N args us vs Q hr e0 hn hb r (h _ _ _ _ q)⟩
theorem FnT.room {k k' : Nat} {f : Addr} {fd : FuncData} {ps : List Str} {sp : SpN} (F : FnT P w K mg base k f fd ps sp) (h : k ≤ k') : FnT P w K mg base k' f fd ps sp := ⟨F.len, fun A outer s H N args us vs Q hr => F.run A outer s H N args us vs Q (hr.mono h)⟩
theorem sq_un {X : Cx} {pins : List (Addr × Obj)} {D : EndsN} {f : Flow} {s' : Shared} (h : SQ X.nox pins D f s') : SQ X pins D f s' := let ⟨N, hn, q⟩ := h; ⟨N, hn, q.unwish⟩
/-- by the def's body -/
theorem fnT_body {x qual : Str} {st : Stmt} {f : Addr} {fd : FuncData} {Ns ps : List Str} {k : Nat} {sp : SpN} (F : C8.Fun K x qual st f fd) (S : FnScope Ns ps (C8.fnScope st)) (len : ∀ vs H N Q, sp vs H N Q → vs.length = ps.length)
    (hbody : ∀ (cdv : Value) (A : Around) (outer : List Env) (s : Shared) (H : Hp) (N : Nat) (vs : List V) (Q : VN), Room k (A.deeper (envOfC qual (C8.fnScope st) s.heap.objs.size f cdv)) → sp vs H N Q →
      bN (cxOf C8.CX0 P w K mg base Ns qual (C8.fnScope st) f cdv A outer s H C8.E0).nox (C8.fnBody st) { nx := fun _ H' N' => Q .non H' N', rt := Q } (start Ns vs) H N) : FnT P w K mg base (k + 1) f fd ps sp := by
  obtain ⟨oc, od, dV, kV, doc, pm, an, cdv, ct, osl, rfl, lk, hcd⟩ := F.ex
  refine ⟨len, fun A outer s H N args us vs Q hr e0 hn hb r hsp => ?_⟩
  have hin : K.In s.heap := e0.mod.kin.keeps fun b o e => (e0.bs b o e).1
  have hlim : s.heap.NoLimit := e0.mod.nolimit.keeps fun b o e => (e0.bs b o e).1
  have kinds : ∀ y ∈ ps.zip us, (C8.fnScope st).names.lookup y.1 = some .local ∨ ((C8.fnScope st).names.lookup y.1 = some .cell ∧ ((cellsFrom (s.heap.objs.size + 1) (C8.fnScope st).names []).lookup y.1).isSome = true) := by
    rintro ⟨nm, u⟩ hy
    exact (S.par nm (List.of_mem_zip hy).1).imp id fun q => ⟨q, PySem.W.cellsFrom_some _ _ _ (.inl q)⟩
  refine codeAny_mono (codeAny_toks_of hn (codeAny_call_function hr.depth (hin _ _ lk) rfl S.co S.gen rfl (PySem.W.codeRec_of hin hcd) (hb _ _ _ _ ?_))) fun r s' x => x.2
  refine wpAny_mono (wpAny_toks_of hn (wpAny_newFunctionEnv_cells S.kind kinds fun env he s1 x => (show (env = envOfC qual (C8.fnScope st) s.heap.objs.size f cdv) ∧ InCallC s s.heap.objs.size (bindL (envOfC qual (C8.fnScope st) s.heap.objs.size f cdv).kindOf (ps.zip us) fun _ => none) (cellsFrom (s.heap.objs.size + 1) (C8.fnScope st).names []) (bindC (envOfC qual (C8.fnScope st) s.heap.objs.size f cdv).kindOf (ps.zip us) fun _ => none) s1 from by subst he; exact ⟨rfl, x⟩))) (fun env s1 z => ?_) fun _ _ z => z.2
  obtain ⟨n1, he, x⟩ := z
  subst he
  refine ⟨hlim.keeps x.toInCall.keep, codeAny_func ?_⟩
  have I := inv_start (CX := C8.CX0) (P := P) (w := w) (K := K) (mg := mg) (base := base) (E := C8.E0) S hr.hd e0 (len _ _ _ _ hsp) r x
  refine wpAny_mono (hbody cdv A outer s H N vs Q (hr.deeper _) hsp [] s1 n1 (I.wish _)) (fun fl s2 hs => ?_) fun _ _ z => False.elim z
  obtain ⟨N2, n2, hs⟩ := sq_un hs
  refine ⟨N2, n2, ?_⟩
  cases fl with
  | ret u =>
    obtain ⟨v, σ2, H2, J, rv, q⟩ := hs
    exact ⟨v, H2, J.os, J.bare, J.base, J.hok, rv, q⟩
  | next =>
    obtain ⟨σ2, H2, J, q⟩ := hs
    exact ⟨.non, H2, J.os, J.bare, J.base, J.hok, rfl, q⟩
  | brk =>
    obtain ⟨_, _, _, q⟩ := hs
    exact (show False from q).elim
  | cont =>
    obtain ⟨_, _, _, q⟩ := hs
    exact (show False from q).elim
structure CalT (P : Program) (w : World) (K : PySem.W.Frag) (mg : Str → Option Value) (base : Heap) (k : Nat) (x : Str) (sp : SpN) : Prop where
  ex : ∃ (f : Addr) (fd : FuncData) (ps : List Str), FnT P w K mg base k f fd ps sp ∧ mg x = some (.ref f) ∧ PySem.W.keepIn K (.ref f) = true ∧ Binds K fd ps []
structure MetT (P : Program) (w : World) (K : PySem.W.Frag) (mg : Str → Option Value) (base : Heap) (k : Nat) (C : Addr) (m : Str) (sp : SpN) : Prop where
  ex : ∃ (f : Addr) (fd : FuncData) (ps : List Str), Cls K C ∧ Meth K C m f ∧ FnT P w K mg base k f fd ps sp ∧ Binds K fd ps []
theorem calT_of {x : Str} {st : Stmt} {Ns ps : List Str} {k : Nat} {sp : SpN} (F : DF K mg x st ps) (S : C8.scC Ns ps (C8.fnScope st) = true) (len : ∀ vs H N Q, sp vs H N Q → vs.length = ps.length)
    (hbody : ∀ (f : Addr) (cdv : Value) (A : Around) (outer : List Env) (s : Shared) (H : Hp) (N : Nat) (vs : List V) (Q : VN), Room k (A.deeper (envOfC x (C8.fnScope st) s.heap.objs.size f cdv)) → Ns.Nodup → sp vs H N Q →
      bN (cxOf C8.CX0 P w K mg base Ns x (C8.fnScope st) f cdv A outer s H C8.E0).nox (C8.fnBody st) { nx := fun _ H' N' => Q .non H' N', rt := Q } (start Ns vs) H N) : CalT P w K mg base (k + 1) x sp := by
  obtain ⟨f, fd, D, b⟩ := F.ex
  exact ⟨f, fd, ps, fnT_body D.fn (C8.fnScope_by S) len fun cdv A outer s H N vs Q hr h => hbody f cdv A outer s H N vs Q hr (C8.fnScope_by S).nd h, D.mgf, D.kp, b⟩
theorem metT_of {m qual : Str} {C : Addr} {st : Stmt} {Ns ps : List Str} {k : Nat} {sp : SpN} (F : MF K C m qual st ps) (S : C8.scC Ns ps (C8.fnScope st) = true) (len : ∀ vs H N Q, sp vs H N Q → vs.length = ps.length)
    (hbody : ∀ (f : Addr) (cdv : Value) (A : Around) (outer : List Env) (s : Shared) (H : Hp) (N : Nat) (vs : List V) (Q : VN), Room k (A.deeper (envOfC qual (C8.fnScope st) s.heap.objs.size f cdv)) → Ns.Nodup → sp vs H N Q →
      bN (cxOf C8.CX0 P w K mg base Ns qual (C8.fnScope st) f cdv A outer s H C8.E0).nox (C8.fnBody st) { nx := fun _ H' N' => Q .non H' N', rt := Q } (start Ns vs) H N) : MetT P w K mg base (k + 1) C m sp := by
  obtain ⟨f, fd, me, D, b⟩ := F.ex
  exact ⟨f, fd, ps, F.cl, me, fnT_body D (C8.fnScope_by S) len fun cdv A outer s H N vs Q hr h => hbody f cdv A outer s H N vs Q hr (C8.fnScope_by S).nd h, b⟩
theorem MetT.of {k : Nat} {C : Addr} {m : Str} {sp : Sp} (M : C8.Met P w K mg base k C m sp []) : MetT P w K mg base k C m (fun vs H N Q => sp vs H (fun v H' => Q v H' N) C8.E0) := by
  obtain ⟨f, fd, ps, ds, c, me, F, b, d⟩ := M.ex
  cases d
  exact ⟨f, fd, ps, c, me, .of F, b⟩
theorem CalT.of {k : Nat} {x : Str} {sp : Sp} (M : C8.Cal P w K mg base k x sp []) : CalT P w K mg base k x (fun vs H N Q => sp vs H (fun v H' => Q v H' N) C8.E0) := by
  obtain ⟨f, fd, ps, ds, F, h1, h2, b, d⟩ := M.ex
  cases d
  exact ⟨f, fd, ps, .of F, h1, h2, b⟩
theorem MetT.imp {k : Nat} {C : Addr} {m : Str} {sp sp' : SpN} (M : MetT P w K mg base k C m sp) (h : ∀ vs H N Q, sp' vs H N Q → sp vs H N Q) : MetT P w K mg base k C m sp' := let ⟨f, fd, ps, a, b, c, d⟩ := M.ex; ⟨f, fd, ps, a, b, c.imp h, d⟩
end
section
variable {X : Cx} {e a c : Expr} {es : List Expr} {σ : L2.St} {H : Hp} {N : Nat} {Q : VN} {pos p1 : Pos} {k j : Nat} {sp : SpN} {C dx ad : Addr} {fs : List (Str × V)} {m : Str}
theorem run_fnT {pins : List (Addr × Obj)} {s : Shared} {us : List Value} {vs : List V} {f : Addr} {fd : FuncData} {ps : List Str} (F : FnT X.prog X.w X.K X.mg X.base k f fd ps sp) (hr : Room k X.A) (hb : Binds X.K fd ps []) (hn : N ≤ s.toks) (I : Inv X pins σ H s) (r : Vals vs us) (h : sp vs H N Q) :
    wpAny (model X.prog X.w) X.A (call (.ref f) us) (EQ X pins σ Q) X.xe s := by
  have hl : (us ++ []).length = ps.length := by rw [List.append_nil, ← r.length]; exact F.len _ _ _ _ h
  have b := hb s us I.kIn hl
  rw [List.append_nil] at b
  refine wpAny_call (codeAny_mono (F.run X.A X.stack s H N ⟨us, []⟩ us vs Q hr I.env0 hn b r h) fun r s1 z => ?_)
  obtain ⟨N1, n1, z⟩ := z
  cases r with
  | error e => exact False.elim z
  | ok fl =>
    cases fl with
    | ret u =>
      obtain ⟨v, H1, I1, r1, q1⟩ := I.after z
      exact ⟨v, H1, N1, n1, I1, r1, q1⟩
    | _ => exact False.elim z
theorem en_call {x : Str} (M : CalT X.prog X.w X.K X.mg X.base k x sp) (hr : Room j X.A) (ha : aN X (a :: es) σ H N fun vs H1 N1 => sp vs H1 N1 Q) (hk : k ≤ j := by decide) (hg : Gl X x := by rfl) (hdb : (x == ("__debug__" : Str)) = false := by decide)
    (he : starEach (a :: es) X.env = (false, eval a X.env) :: starEach es X.env := by rfl) (hpl : (backTo pos (starEach es X.env)).any (·.1) = false := by rfl) : eN X (.Call (.Name x p1) (a :: es) [] pos) σ H N Q := by
  obtain ⟨f, fd, ps, F, hm, kp, b⟩ := M.ex
  refine fun pins s hn I => wpAny_Call_Name_kw (ld_glob I hg hm ?_ hdb)
  refine PySem.W.callWith_K (h₀ := X.base) I.ok.mod.kin kp (thn (ha pos pins s hn I) fun us s1 ⟨vs, H1, N1, n1, I1, r1, q1⟩ => ⟨I1.kIn, ?_⟩) he hpl
  exact run_fnT F (hr.mono hk) b n1 I1 r1 q1
theorem en_meth {pl : Sem Bool} (M : MetT X.prog X.w X.K X.mg X.base k C m sp) (hr : Room j X.A) (ho : XE X a σ H (.ref ad)) (hi : H ad = some (.ins C dx fs)) (hl : fs.lookup m = none) (ha : ∀ H1, Ex H H1 → aN X (c :: es) σ H1 N fun vs H2 N2 => sp (.ref ad :: vs) H2 N2 Q) (hk : k ≤ j := by decide)
    (hst : starEach (c :: es) X.env = (false, eval c X.env) :: starEach es X.env := by rfl) (hpl : (backTo pos (starEach es X.env)).any (·.1) = false := by rfl)
    (ht : eval (.Call (.Attribute a m p1) (c :: es) [] pos) X.env = (do
      let ov ← eval a X.env; standAt p1.atName; let (f, first) ← holding [ov] (getMethod ov m pl); callWith pos f first (backTo pos (starEach (c :: es) X.env)) (backToKw pos (keywordEach [] X.env))) := by rfl) : eN X (.Call (.Attribute a m p1) (c :: es) [] pos) σ H N Q := by
  obtain ⟨f, fd, ps, cl, me, F, b⟩ := M.ex
  refine fun pins s hn I => PySem.W.methodCall_KW (pl := pl) (thnT hn (ho H (Ex.refl H) (fun v H1 => v = .ref ad ∧ Ex H H1) (fun H1 e1 => ⟨rfl, e1⟩) pins s I) fun u s1 n1 ⟨v, H1, I1, r1, ev, e1⟩ => ?_) ht
  subst ev
  cases r1
  refine getmeth_ok I1 (e1 _ _ hi) cl me hl ?_
  refine PySem.W.callWith_K (first := [.ref ad]) (h₀ := X.base) I.ok.mod.kin me.kp (thn (ha H1 e1 pos pins s1 n1 I1) fun us s2 ⟨vs, H2, N2, n2, I2, r2, q2⟩ => ⟨I2.kIn, ?_⟩) hst hpl
  exact run_fnT (us := .ref ad :: us) (vs := .ref ad :: vs) F (hr.mono hk) b n2 I2 (.cons rfl r2) q2
theorem en_meth0 {pl : Sem Bool} (M : MetT X.prog X.w X.K X.mg X.base k C m sp) (hr : Room j X.A) (ho : XE X a σ H (.ref ad)) (hi : H ad = some (.ins C dx fs)) (hl : fs.lookup m = none) (ha : ∀ H1, Ex H H1 → sp [.ref ad] H1 N Q) (hk : k ≤ j := by decide)
    (ht : eval (.Call (.Attribute a m p1) [] [] pos) X.env = (do
      let ov ← eval a X.env; standAt p1.atName; let (f, first) ← holding [ov] (getMethod ov m pl); callWith pos f first (backTo pos (starEach [] X.env)) (backToKw pos (keywordEach [] X.env))) := by rfl) : eN X (.Call (.Attribute a m p1) [] [] pos) σ H N Q := by
  obtain ⟨f, fd, ps, cl, me, F, b⟩ := M.ex
  refine fun pins s hn I => PySem.W.methodCall_KW (pl := pl) (thnT hn (ho H (Ex.refl H) (fun v H1 => v = .ref ad ∧ Ex H H1) (fun H1 e1 => ⟨rfl, e1⟩) pins s I) fun u s1 n1 ⟨v, H1, I1, r1, ev, e1⟩ => ?_) ht
  subst ev
  cases r1
  refine getmeth_ok I1 (e1 _ _ hi) cl me hl ?_
  exact PySem.W.callWith_K0 (first := [.ref ad]) I1.kIn me.kp (run_fnT (us := [.ref ad]) (vs := [.ref ad]) F (hr.mono hk) b n1 I1 (.cons rfl .nil) (ha H1 e1))
/-! ### arguments, displays -/
theorem an_nil {Q : List V → Hp → Nat → Prop} (h : Q [] H N) : aN X [] σ H N Q := an_a (wa pa_nil h)
theorem an_cons {Q : List V → Hp → Nat → Prop} (h : eN X a σ H N fun v H1 N1 => aN X es σ H1 N1 fun vs H2 N2 => Q (v :: vs) H2 N2) (hs : starEach (a :: es) X.env = (false, eval a X.env) :: starEach es X.env := by rfl) : aN X (a :: es) σ H N Q := fun pos pins s hn I => by
  rw [hs]
  exact Calls.spliced_cons (thn (h pins s hn I) fun u s1 ⟨v, H1, N1, n1, I1, r1, q1⟩ => thn (q1 pos pins s1 n1 I1) fun us s2 ⟨vs, H2, N2, n2, I2, r2, q2⟩ => ⟨v :: vs, H2, N2, n2, I2, .cons r1 r2, q2⟩)
theorem an_xa {Q : List V → Hp → Nat → Prop} {vs : List V} (h : XA X es σ H vs) (k : ∀ H1, Ex H H1 → Q vs H1 N) : aN X es σ H N Q := an_a (h H (Ex.refl H) _ fun H1 e1 => k H1 e1)
theorem en_xe {v : V} (h : XE X e σ H v) (k : ∀ H1, Ex H H1 → Q v H1 N) : eN X e σ H N Q := en_e (h H (Ex.refl H) _ fun H1 e1 => k H1 e1)
/-- *e of a list or a tuple -/
theorem an_star {Q : List V → Hp → Nat → Prop} {sp1 : Pos} (h : eN X a σ H N fun v H1 N1 => ∃ p xs, v = .ref p ∧ (SqT X.K H1 p xs ∨ SqL X.K H1 p xs) ∧ aN X es σ H1 N1 fun vs H2 N2 => Q (xs ++ vs) H2 N2) (hs : starEach (.Starred a sp1 :: es) X.env = (true, eval a X.env) :: starEach es X.env := by rfl) : aN X (.Starred a sp1 :: es) σ H N Q := fun pos pins s hn I => by
  refine PySem.W.items_star (thn (h pins s hn I) fun u s1 ⟨v, H1, N1, n1, I1, r1, p, xs, ev, hx, q1⟩ => ?_) hs
  subst ev
  cases r1
  have st := StX.star_any (E := X.xe) (Q := fun us s' => Inv X pins σ H1 s' ∧ Vals xs us) I1 hx fun us s2 I2 rv => ⟨I2, rv⟩
  unfold PySem.W.StarOf at st ⊢
  refine wpAny_mono (wpAny_toks_of n1 st) (fun r s2 z => ⟨z.2.1, ?_⟩) fun _ _ z => z.2
  refine wpAny_mono (wpAny_toks_of z.1 z.2.2) (fun us s3 y => ?_) fun _ _ z => z.2
  obtain ⟨n3, I3, rv⟩ := y
  exact thn (q1 pos pins s3 n3 I3) fun ws s4 ⟨vs, H4, N4, n4, I4, r4, q4⟩ => ⟨xs ++ vs, H4, N4, n4, I4, rv.append r4, q4⟩
theorem en_tup {y1 : Nat} (h : aN X es σ H N fun vs H1 N1 => vs.length ≤ 100000 ∧ ∀ p, H1 p = none → Q (.ref p) (upd H1 p (.tup vs)) N1) : eN X (.Tuple es y1 pos) σ H N Q := fun pins s hn I =>
  wpAny_Tuple_spliced (thn (h pos pins s hn I) fun us s1 ⟨vs, H1, N1, n1, I1, r1, z, q⟩ => ⟨by rw [← r1.length]; exact sz_of z, .ref s1.heap.objs.size, upd H1 s1.heap.objs.size (.tup vs), N1, n1, I1.laid (t' := s1.toks) (fun b u e => Heap.get?_push_of_some _ e) (Nat.le_refl _) ⟨sz_of z, us, r1, ⟨_, Heap.get?_push_size _ rfl, rfl, _, rfl⟩⟩, rfl, q _ (I1.hok.fresh (Nat.le_refl _))⟩)
theorem en_lst (h : aN X es σ H N fun vs H1 N1 => vs.length ≤ 100000 ∧ ∀ p, H1 p = none → Q (.ref p) (upd H1 p (.lst vs)) N1) : eN X (.List es pos) σ H N Q := fun pins s hn I =>
  wpAny_List_spliced (thn (h pos pins s hn I) fun us s1 ⟨vs, H1, N1, n1, I1, r1, z, q⟩ => ⟨by rw [← r1.length]; exact sz_of z, .ref s1.heap.objs.size, upd H1 s1.heap.objs.size (.lst vs), N1, n1, I1.laid (t' := s1.toks) (fun b u e => Heap.get?_push_of_some _ e) (Nat.le_refl _) ⟨sz_of z, us, 0, r1, Heap.get?_push_size _ rfl⟩, rfl, q _ (I1.hok.fresh (Nat.le_refl _))⟩)
end
end Ln
/-! LsN3 -/
set_option Elab.async false
set_option linter.all false
set_option maxRecDepth 100000
namespace Ln
open PySem PySem.Spec PyProof.Rows L2 Lx
open Evl (Ex Ex.refl Ex.trans Ex.mut Ex.new Ev EvT EvL EvU EvA ex_l ex_t ex_rd sq_of st_of sz_of sz_lt fresh_back)
/-- what a comprehension over the list at l is to show: Pv by the turn; D the new list -/
def LcN (X : Cx) (scope : Scope) (elt : Expr) (j : Nat) (σ : L2.St) (Q : VN) : VN := fun v H1 N1 => ∃ (l : Addr) (xs : List V) (Pv : Addr → Nat → Hp → Nat → Prop), v = .ref l ∧ SqL X.K H1 l xs ∧ (∀ D, H1 D = none → Pv D 0 (upd H1 D (.lst [])) N1) ∧ (∀ D i H' N', Pv D i H' N' → SqL X.K H' l xs) ∧
  (∀ D i x H' N', xs[i]? = some x → Pv D i H' N' → ∀ (s : Shared) (H0 : Hp) (C : Addr) (cl : List (Str × Addr)) (fp : List Addr), eN (bk X scope s H0 C cl fp) elt ((wipe σ [j]).set j (some x)) H' N' fun v H2 N2 => ∃ acc, H2 D = some (.lst acc) ∧ acc.length < 100000 ∧ Pv D (i + 1) (upd H2 D (.lst (acc ++ [v]))) N2) ∧
  ∀ D H' N', Pv D xs.length H' N' → Q (.ref D) H' N'
section
variable {X : Cx} {pins : List (Addr × Obj)} {s : Shared} {σ : L2.St} {H : Hp} {N : Nat} {Q : VN} {elt iter : Expr} {scope : Scope} {y : Str} {j : Nat} {pos pos' p1 : Pos} {use : Option (Value → Sem Unit)} {Qf : Value → Shared → Prop}
theorem lcN_core (hc : X.calm = true) (hN : X.N.Nodup) (hn : N ≤ s.toks) (I : Inv X pins σ H s) (ok : BlkOk X.N X.env.scope scope [(y, j)])
    (hg : ∀ (s : Shared) (H0 : Hp) (C : Addr) (cl : List (Str × Addr)) (fp : List Addr), PG (bk X scope s H0 C cl fp) (.Name y p1) (gName j)) (hs : ∀ x, foldedSetIterable iter X.env x = pure x) (h : eN X iter σ H N (LcN X scope elt j σ Q))
    (fin : ∀ D C s' m H' N', N' ≤ s'.toks → Inv X pins σ H' s' → Q (.ref D) H' N' → s'.heap.Ns C m → FpOk X pins H' C → compPost (model X.prog X.w) X.A X.xe use Qf (.ref D) C (.ok .next) s') :
    wpAny (model X.prog X.w) X.A (comprehension (.ListComp elt [⟨.Name y p1, iter, [], 0⟩] scope pos) scope X.env pos' (newList []) false (eval iter X.env) use) Qf X.xe s := by
  have frees : ∀ z ∈ scope.names, z.2 = .free → ∃ c, X.env.cells.lookup z.1 = some c := fun z hz e => (ok.free z hz e).elim (fun k => I.ok.has _ (.inl k)) fun k => I.ok.has _ (.inr k)
  refine wpAny_comprehension_free (use := use) rfl hs (closure_ok frees) ok.kind (fun z hz e => by rw [ok.uniq z hz, e]) (thn (h pins s hn I) fun u s1 ⟨v, H1, N1, n1, I1, r1, l, xs, Pv, ev, hl, p0, pl, stp, dn⟩ => ?_)
  subst ev
  cases r1
  obtain ⟨its0, rv0, pt0, hz0⟩ := I1.list hl
  refine wpAny_pyIter_list pt0.isList ?_
  have Tn := turn_list (P := X.prog) (w := X.w) (K := X.K) (tg := .Name y p1) l s1.heap.objs.size
  generalize hs2 : ({ s1 with heap := s1.heap.push { cls := .type "list_iterator", data := .fields #[.ref l, .int 0 0] } } : Shared) = s2
  have n2 : N1 ≤ s2.toks := by rw [← hs2]; exact n1
  have I2 : Inv X pins σ H1 s2 := by rw [← hs2]; exact I1.kept (t' := s1.toks) fun b o e => Heap.get?_push_of_some _ e
  have st2 : s2.heap.IsListIter s1.heap.objs.size l 0 := by rw [← hs2]; exact ⟨_, Heap.get?_push_size _ rfl, rfl, rfl⟩
  have f2 : ∀ b ∈ [s1.heap.objs.size], FpOk X pins H1 b := fun b hb => by
    rw [List.mem_singleton.mp hb]
    exact I1.fpOk (Nat.le_refl _) (I1.hok.fresh (Nat.le_refl _))
  generalize s1.heap.objs.size = it at Tn st2 f2 hs2
  -- the new list
  refine wpAny_newObj_type (newEnv_comp ?_) (by show 0 ≤ sizeLine; decide)
  have d0 : H1 s2.heap.objs.size = none := I2.hok.fresh (Nat.le_refl _)
  have q0 := p0 _ d0
  have lt2 : ∀ b ∈ [it], b < s2.heap.objs.size := fun b hb => let ⟨o, e, _⟩ := Tn.obj _ _ st2 b hb; Heap.lt_size e
  generalize hs3 : ({ s2 with heap := s2.heap.push { cls := .type "list", data := .seq ([] : List Value).toArray } } : Shared) = s3
  have I3 : Inv X pins σ (upd H1 s2.heap.objs.size (.lst [])) s3 := by
    rw [← hs3]
    exact I2.laid (t' := s2.toks) (fun b o e => Heap.get?_push_of_some _ e) (Nat.le_refl _) ⟨Nat.zero_le _, [], 0, .nil, Heap.get?_push_size _ rfl⟩
  have n3 : N1 ≤ s3.toks := by rw [← hs3]; exact n2
  have e3 : ∀ b o, s2.heap.get? b = some o → s3.heap.get? b = some o := fun b o e => by rw [← hs3]; exact Heap.get?_push_of_some _ e
  have z3 : s2.heap.objs.size < s3.heap.objs.size := by rw [← hs3]; show _ < (s2.heap.push _).objs.size; rw [Heap.size_push]; exact Nat.lt_succ_self _
  have f3 : ∀ b ∈ [it], FpOk X pins (upd H1 s2.heap.objs.size (.lst [])) b ∧ b < s3.heap.objs.size := fun b hb =>
    ⟨⟨by rw [upd_ne (Nat.ne_of_lt (lt2 b hb))]; exact (f2 b hb).1, (f2 b hb).2⟩, Nat.lt_trans (lt2 b hb) z3⟩
  have st3 : s3.heap.IsListIter it l 0 := Tn.keep _ _ _ st2 fun b _ o e => e3 b o e
  generalize s2.heap.objs.size = D at d0 q0 I3 f3 hs3 z3 lt2 ⊢
  have I4 := block_start I3 ok hN f3
  have pg : PG (X.blk s3 (upd H1 D (.lst [])) scope (compEnvC scope (cellsFrom (s3.heap.objs.size + 1) scope.names (cloFrom X.env.cells scope.names [])) s3.heap.objs.size X.env) [it]) (.Name y p1) (gName j) := hg s3 (upd H1 D (.lst [])) s3.heap.objs.size (cellsFrom (s3.heap.objs.size + 1) scope.names (cloFrom X.env.cells scope.names [])) [it]
  have stp : ∀ i x H' N', xs[i]? = some x → Pv D i H' N' → eN (X.blk s3 (upd H1 D (.lst [])) scope (compEnvC scope (cellsFrom (s3.heap.objs.size + 1) scope.names (cloFrom X.env.cells scope.names [])) s3.heap.objs.size X.env) [it]) elt ((wipe σ [j]).set j (some x)) H' N' fun v H2 N2 => ∃ acc, H2 D = some (.lst acc) ∧ acc.length < 100000 ∧ Pv D (i + 1) (upd H2 D (.lst (acc ++ [v]))) N2 := fun i x H' N' hx p => stp D i x H' N' hx p s3 (upd H1 D (.lst [])) s3.heap.objs.size (cellsFrom (s3.heap.objs.size + 1) scope.names (cloFrom X.env.cells scope.names [])) [it]
  show codeAny _ _ (.compStart (.ListComp elt [⟨.Name y p1, iter, [], 0⟩] scope pos) 0 (.ref it) (.ref D) (compEnvC scope (cellsFrom (s3.heap.objs.size + 1) scope.names (cloFrom X.env.cells scope.names [])) s3.heap.objs.size X.env)) (compPost (model X.prog X.w) X.A X.xe use Qf (.ref D) s3.heap.objs.size) { s3 with heap := pushCells (s3.heap.push { cls := .type "dict", data := .dict #[] }) scope.names }
  have cl : (compEnvC scope (cellsFrom (s3.heap.objs.size + 1) scope.names (cloFrom X.env.cells scope.names [])) s3.heap.objs.size X.env).locals = s3.heap.objs.size := rfl
  have nH3 : ∀ b ∈ [it], (upd H1 D (.lst [])) b = none := fun b hb => (f3 b hb).1.1
  generalize compEnvC scope (cellsFrom (s3.heap.objs.size + 1) scope.names (cloFrom X.env.cells scope.names [])) s3.heap.objs.size X.env = ce at I4 pg stp cl ⊢
  generalize upd H1 D (.lst []) = H3 at I3 I4 pg stp q0 f3 nH3
  generalize hs4 : ({ s3 with heap := pushCells (s3.heap.push { cls := .type "dict", data := .dict #[] }) scope.names } : Shared) = s4 at I4 ⊢
  have n4 : N1 ≤ s4.toks := by rw [← hs4]; exact n3
  have st4 : s4.heap.IsListIter it l 0 := Tn.keep _ _ _ st3 fun b _ o e => by rw [← hs4]; exact pushCells_keeps _ _ _ _ (Heap.get?_push_of_some _ e)
  have stat : ∀ {σ1 : L2.St} {Hx : Hp} {sx : Shared}, Inv (X.blk s3 H3 scope ce [it]) [] σ1 Hx sx → (∀ b ∈ [it], Hx b = none) → ∀ b ∈ [it], FpOk (X.blk s3 H3 scope ce [it]) [] Hx b := fun {σ1 Hx sx} J hn b hb =>
    ⟨hn b hb, (J.ok.exf b hb).1, J.ok.exfs b hb, .inl hb, fun x c e => (J.ok.exf b hb).2 x c e, fun p hp => absurd (show p ∈ ([] : List (Addr × Obj)) ++ [] from hp) (by simp)⟩
  have loop : codeAny (model X.prog X.w) X.A (.compLoop (.ListComp elt [⟨.Name y p1, iter, [], 0⟩] scope pos) 0 (.ref it) (.ref D) ce) (compPost (model X.prog X.w) X.A X.xe use Qf (.ref D) s3.heap.objs.size) s4 := by
    refine compLoop_any (fun n sx => ∃ i Hx Nx, Nx ≤ sx.toks ∧ Inv (X.blk s3 H3 scope ce [it]) [] (wipe σ [j]) Hx sx ∧ sx.heap.IsListIter it l i ∧ (∀ b ∈ [it], Hx b = none) ∧ n = xs.length - i ∧ i ≤ xs.length ∧ Pv D i Hx Nx) ?_ xs.length ⟨0, H3, N1, n4, I4, st4, nH3, by omega, Nat.zero_le _, q0⟩
    rintro n s5 ⟨i, H5, N5, n5, I5, st5, fr5, rfl, hi, w5⟩
    by_cases hlt : i < xs.length
    · refine wpAny_mono (wpAny_toks_of n5 (Tn.item (X.blk s3 H3 scope ce [it]) rfl rfl rfl hc i [] s5 _ H5 (fun _ _ => False) I5 (stat I5 fr5) st5 ⟨xs, xs[i], pl _ _ _ _ w5, by simp [hlt]⟩)) (fun r s6 z => ?_) fun _ _ z => False.elim z.2
      obtain ⟨n6, u, hr, h6⟩ := z
      subst hr
      refine wpAny_mono (wpAny_toks_of n6 h6) (fun _ s7 z => ?_) fun _ _ z => False.elim z.2
      obtain ⟨n7, x, H7, I7, r7, ⟨eH, hx⟩, st7, fr7⟩ := z
      subst eH
      have I7' := I7.pinned (stat I7 fr7) (Tn.obj _ _ st7)
      refine wpAny_mono (wpAny_toks_of n7 (pg.run _ s7 _ H7 x u (fun σ8 H8 => σ8 = (wipe σ [j]).set j (some x) ∧ H8 = H7) I7' r7 ⟨rfl, rfl⟩)) (fun _ s8 z => ?_) fun _ _ z => False.elim z.2
      obtain ⟨n8, σ8, H8, I8, e8, eH⟩ := z
      subst e8
      subst eH
      refine wpAny_tests_nil ?_
      rw [if_pos rfl]
      refine wpAny_mono (stp i x H8 N5 (hx xs (pl _ _ _ _ w5)) w5 _ s8 n8 I8) (fun v9 s9 z => ?_) fun _ _ z => False.elim z
      obtain ⟨v, H9, N9, n9, I9, r9, acc, hD9, hz9, w9⟩ := z
      refine wpAny_mono (wpAny_toks_of n9 (app_ok (X := X.blk s3 H3 scope ce [it]) (E := fun _ _ => False) (Q := fun _ sx => Inv (X.blk s3 H3 scope ce [it]) ([] ++ pinsAt [it] s7.heap) ((wipe σ [j]).set j (some x)) (upd H9 D (.lst (acc ++ [v]))) sx) I9 hD9 (sz_lt hz9) r9 fun sx Ix => Ix)) (fun _ sx z => ?_) fun _ _ z => False.elim z.2
      obtain ⟨nx, Ix⟩ := z
      have pk : ∀ b ∈ [it], ∀ o, s7.heap.get? b = some o → sx.heap.get? b = some o ∧ (upd H9 D (.lst (acc ++ [v]))) b = none := fun b hb o e =>
        let z := Ix.pin (b, o) (List.mem_append_right _ (List.mem_append_right _ (mem_pinsAt hb e)))
        ⟨z.1, z.2.1⟩
      refine ⟨xs.length - (i + 1), by omega, i + 1, _, N9, nx, (Ix.unpinned (pins := [])).weak (by rw [List.length_set]) (fun k v' e => ?_), Tn.keep _ _ _ st7 fun b hb o e => (pk b hb o e).1, fun b hb => ?_, rfl, hlt, w9⟩
      · by_cases ek : k = j
        · subst ek
          rw [wipe1] at e
          rw [List.getElem?_set] at e
          split at e
          · split at e <;> cases e
          · rename_i hne; exact absurd rfl hne
        · rw [List.getElem?_set_ne (fun z => ek z.symm)]
          exact e
      · obtain ⟨o, e, _⟩ := Tn.obj _ _ st7 b hb
        exact (pk b hb o e).2
    · have ei : i = xs.length := by omega
      subst ei
      refine wpAny_mono (wpAny_toks_of n5 (Tn.done (X.blk s3 H3 scope ce [it]) rfl rfl rfl hc _ [] s5 _ H5 (fun _ _ => False) I5 (stat I5 fr5) st5 ⟨xs, pl _ _ _ _ w5, Nat.le_refl _⟩)) (fun r s6 z => ?_) fun _ _ z => False.elim z.2
      obtain ⟨n6, hr, I6⟩ := z
      subst hr
      have I7 : Inv X pins σ H5 s6 := I3.call' (ch := [it]) I6.os I6.base I6.hok I6.bare fun b hb => ⟨(f3 b hb).1.2.2.2.1, (f3 b hb).1.2.1, (f3 b hb).1.2.2.2.2.1, (f3 b hb).1.2.2.2.2.2⟩
      have nC : H5 s3.heap.objs.size = none := by
        have z : H5 ce.locals = none := I6.free
        rw [cl] at z
        exact z
      obtain ⟨m, hm, _⟩ := I6.loc
      have hm : s6.heap.Ns ce.locals m := hm
      rw [cl] at hm
      exact fin D s3.heap.objs.size s6 m H5 N5 n6 I7 (dn D H5 N5 w5) hm (I3.fpOk (Nat.le_refl _) nC)
  exact codeAny_compStart_list loop (Tn.self X.A 0 _ _ _ st4 loop)
/-- as a value -/
theorem en_lc (j : Nat) {y : Str} (h : eN X iter σ H N (LcN X scope elt j σ Q)) (hN : X.N.Nodup := by assumption) (hg : ∀ (s : Shared) (H0 : Hp) (C : Addr) (cl : List (Str × Addr)) (fp : List Addr), PG (bk X scope s H0 C cl fp) (.Name y p1) (gName j) := by intro _ _ _ _ _; exact pg_name (by assumption) rfl (Or.inl rfl))
    (hc : X.calm = true := by rfl) (ok : BlkOk X.N X.env.scope scope [(y, j)] := by exact blkOk_by (by kernel_rfl)) (hs : ∀ x, foldedSetIterable iter X.env x = pure x := by intro _; rfl) : eN X (.ListComp elt [⟨.Name y p1, iter, [], 0⟩] scope pos) σ H N Q := fun pins s hn I => by
  rw [eval_ListComp]
  refine lcN_core hc hN hn I ok hg hs h fun D C s1 m H1 N1 n1 I1 q hm f => ⟨m, hm, fun h2 sb => ?_⟩
  obtain ⟨f0, f1, f2, f3, f4, f5⟩ := f
  exact ⟨.ref D, H1, N1, n1, I1.turned (t' := s1.toks) (fun b o hb e => (sb.2 b hb).trans e) f0 f1 f3 f4 f5, rfl, q⟩
/-- name = [..], the name a local -/
theorem bn_setLc (i j : Nat) {y z : Str} {rest : List Stmt} {D : EndsN} {apos spos : Pos} (h : eN X iter σ H N (LcN X scope elt j σ fun v H1 N1 => bN X rest D (σ.set i (some v)) H1 N1)) (hN : X.N.Nodup := by assumption) (hz : X.N[i]? = some z := by rfl) (hzl : X.env.scope.names.lookup z = some .local := by rfl)
    (hsw : swapsWith (.ListComp elt [⟨.Name y p1, iter, [], 0⟩] scope pos) (some (.Name z apos)) spos.line X.env = pure true := by exact sw_true rfl rfl rfl (by decide +kernel)) (hg : ∀ (s : Shared) (H0 : Hp) (C : Addr) (cl : List (Str × Addr)) (fp : List Addr), PG (bk X scope s H0 C cl fp) (.Name y p1) (gName j) := by intro _ _ _ _ _; exact pg_name (by assumption) rfl (Or.inl rfl))
    (hc : X.calm = true := by rfl) (ok : BlkOk X.N X.env.scope scope [(y, j)] := by exact blkOk_by (by kernel_rfl)) (hs : ∀ x, foldedSetIterable iter X.env x = pure x := by intro _; rfl) : bN X (.Assign [.Name z apos] (.ListComp elt [⟨.Name y p1, iter, [], 0⟩] scope pos) spos :: rest) D σ H N := by
  refine bn_cons fun pins s hn I => ?_
  rw [exec_Assign_Name_used _ _ _ _ hsw]
  refine wpAny_bind (wpAny_standAt (wpAny_bind ?_))
  show wpAny _ X.A (do let _ ← comprehension (.ListComp elt [⟨.Name y p1, iter, [], 0⟩] scope pos) scope X.env (firstIterPos [⟨.Name y p1, iter, [], 0⟩] pos) (newList []) false (eval iter X.env) (some (assign (.Name z apos) X.env))) _ _ s
  refine wpAny_bind (thn (lcN_core (Qf := fun _ s1 => SQ X pins { D with nx := fun σ' H' N' => bN X rest D σ' H' N' } .next s1) hc hN hn I ok hg hs h fun L C s1 m H1 N1 n1 I1 q hm f => ?_) fun _ s1 q => wpAny_pure (wpAny_pure q))
  show wpAny _ _ (assign (.Name z apos) X.env (.ref L)) _ _ _
  obtain ⟨f0, f1, f2, f3, f4, f5⟩ := f
  refine wpAny_mono (wpAny_toks_of n1 (wpAny_assign_Name (store_ok2 (v := V.ref L) (Q := fun _ s2 => Inv X pins (σ.set i (some (.ref L))) H1 s2 ∧ s2.heap.Ns C m) I1 hN hz (.inl hzl) rfl (fun s2 I2 ⟨a, sb, ha⟩ => ⟨I2, hm.sameBut sb (by
    rcases ha with w | w
    · rw [w]; exact f1
    · exact fun e => f4 z a w e.symm)⟩) (.inr hzl)))) (fun _ s2 w => ?_) fun _ _ w => w.2
  obtain ⟨n2, I2, hm2⟩ := w
  exact ⟨m, hm2, fun h3 sb3 => ⟨N1, n2, _, H1, I2.turned (t' := s2.toks) (fun b o hb e => (sb3.2 b hb).trans e) f0 f1 f3 f4 f5, q⟩⟩
end
end Ln
/-! LsN4 -/
set_option Elab.async false
set_option linter.all false
set_option maxRecDepth 100000
namespace Ln
open PySem PySem.Spec PyProof.Rows L2 Lx
open Evl (Ex Ex.refl Ex.trans Ex.mut Ex.new Ev EvT EvL EvU EvA ex_l ex_t ex_rd sq_of st_of sz_of sz_lt fresh_back)
section
variable {X : Cx} {pins : List (Addr × Obj)} {s : Shared} {σ : L2.St} {H : Hp}
/-- a local name is stored: what stands in the frame behind it -/
theorem store_raw {A : Around} {E : Value → Shared → Prop} {i : Nat} {x : Str} {v : V} {u : Value} {Q : Unit → Shared → Prop} (J : Inv X pins σ H s) (nd : X.N.Nodup) (hi : X.N[i]? = some x) (hk : X.env.scope.names.lookup x = some .local) (r : RelV v u)
    (h : ∀ h', Inv X pins (σ.set i (some v)) H { s with heap := h', toks := s.toks + 1 } → Heap.SameBut X.env.locals s.heap h' → h'.nsMap X.env.locals x = some u → Q () { s with heap := h', toks := s.toks + 1 }) : wpAny (model X.prog X.w) A (storeName X.env x u) Q E s := by
  obtain ⟨m, hn, look⟩ := id J.loc
  have notCls : (X.env.scope.kind == .class || (X.env.scope.kind == .module && X.env.locals != X.env.globals)) = false := by
    rw [J.ok.kind]
    rfl
  have inσ : i < σ.length := by
    rw [J.len]
    exact (List.getElem?_eq_some_iff.mp hi).1
  refine wpAny_storeName_local hk hn (fun h1 hn1 same => ?_) notCls
  obtain ⟨oL, _, _, isL, _⟩ := id hn
  have ne_of_lt : ∀ {b o}, X.s_0.heap.get? b = some o → b ≠ X.env.locals := fun e => Nat.ne_of_lt (Nat.lt_of_lt_of_le (Heap.lt_size e) J.ok.above)
  refine h h1 ?_ same (by rw [← hn1.eq_nsMap]; simp)
  constructor
  · exact J.ok
  · exact J.os
  · exact J.bare
  · constructor
    · exact fun b o e k1 k2 k3 => (same.2 b (ne_of_lt e)).trans (J.base.keep b o e k1 k2 k3)
    · exact fun b o e k1 k2 k3 => let ⟨sl, e1⟩ := J.base.slot b o e k1 k2 k3; ⟨sl, (same.2 b (ne_of_lt e)).trans e1⟩
    · exact J.base.free
    · exact fun b o e k1 => let ⟨o1, e1⟩ := J.base.there b o e k1; ⟨o1, (same.2 b (ne_of_lt e)).trans e1⟩
    · exact J.base.tups
    · exact J.base.frzs
    · exact J.base.tbls
  · refine ⟨_, hn1, fun k y w e1 e2 e3 => ?_⟩
    by_cases ek : k = i
    · subst ek
      rw [hi] at e1
      cases e1
      rw [List.getElem?_set_self inσ] at e2
      cases e2
      exact ⟨u, r, .inl ⟨hk, by simp⟩⟩
    · rw [List.getElem?_set_ne (fun z => ek z.symm)] at e2
      obtain ⟨u1, r1, q⟩ := look k y w e1 e2 e3
      refine ⟨u1, r1, q.imp (fun q => ⟨q.1, ?_⟩) fun q => ⟨q.1, q.2.imp fun c q => ⟨q.1, q.2.sameBut same (J.cne y c q.1)⟩⟩⟩
      have : y ≠ x := fun z => ek (nodup_ix nd e1 (z ▸ hi))
      simp [this, q.2]
  · exact fun y c e => let ⟨w1, z⟩ := J.cell y c e; ⟨w1, z.sameBut same (J.cne y c e)⟩
  · exact J.free
  · exact J.freeC
  · intro p hp
    obtain ⟨e, k1, k2, k3, k4⟩ := J.pin p hp
    exact ⟨(same.2 p.1 k2).trans e, k1, k2, k3, k4⟩
  · intro b ob e
    refine (J.hok b ob e).stay (fun c w1 hc q => (same.2 c ?_).trans q) (fun _ q => q) fun _ _ q => q
    intro z
    rw [z] at hc
    rcases hc with hc | hc
    · rw [← hc] at e
      rw [J.free] at e
      cases e
    · rw [J.free] at hc
      cases hc
  · simpa using J.len
/-- a label whose letter's token is known to be below N -/
def LabC (N : Nat) (w c : Str) (v : V) (H : Hp) : Prop := ∃ (p : Addr) (o : Obj) (uw : Value) (t : Tok), v = .ref p ∧ H p = some (.frz o (.tup [.str w, .str c])) ∧ o.cls = .type "tuple" ∧ o.data = .seq #[uw, .str c t] 0 ∧ 0 < t ∧ t < N
theorem LabC.mono {N N' : Nat} {w c : Str} {v : V} {H H' : Hp} (h : LabC N w c v H) (hn : N ≤ N') (e : Ex H H') : LabC N' w c v H' := let ⟨p, o, uw, t, h1, h2, h3, h4, h5, h6⟩ := h; ⟨p, o, uw, t, h1, e _ _ h2, h3, h4, h5, Nat.lt_of_lt_of_le h6 hn⟩
theorem LabC.up {N : Nat} {w c : Str} {v : V} {H : Hp} {D : Addr} {acc acc' : List V} (h : LabC N w c v H) (hd : H D = some (.lst acc)) : LabC N w c v (upd H D (.lst acc')) := let ⟨p, o, uw, t, h1, h2, h3⟩ := h; ⟨p, o, uw, t, h1, by rw [upd_ne (fun z => by rw [z, hd] at h2; cases h2)]; exact h2, h3⟩
/-- (y, z) of two texts, the second's token at hand -/
theorem pair_raw {E : Value → Shared → Prop} {Q : Value → Shared → Prop} {j : Nat} {y z wt ct : Str} {t : Tok} {kk : Nat} {p1 p2 pos : Pos} {N : Nat} (hn : N ≤ s.toks) (I : Inv X pins σ H s) (hy : X.N[j]? = some y) (vy : Vis X.env.scope y) (sy : σ[j]? = some (some (.str wt))) (hz : X.env.scope.names.lookup z = some .local) (hm : s.heap.nsMap X.env.locals z = some (.str ct t)) (l1 : 0 < t) (l2 : t < N)
    (h : ∀ p H' s', H p = none → Ex H H' → N ≤ s'.toks → Inv X pins σ H' s' → LabC N wt ct (.ref p) H' → Q (.ref p) s')
    (d1 : (y == ("__debug__" : Str)) = false := by decide) (d2 : (y == ("__classdict__" : Str)) = false := by decide) (d3 : (z == ("__debug__" : Str)) = false := by decide) (hs1 : starEach [.Name y p1, .Name z p2] X.env = (false, eval (.Name y p1) X.env) :: starEach [.Name z p2] X.env := by rfl) (hs2 : starEach [.Name z p2] X.env = (false, eval (.Name z p2) X.env) :: starEach [] X.env := by rfl) :
    wpAny (model X.prog X.w) X.A (eval (.Tuple [.Name y p1, .Name z p2] kk pos) X.env) Q E s := by
  refine wpAny_Tuple_spliced ?_
  rw [hs1, hs2]
  refine Calls.spliced_cons (L2.raw_name hy vy I sy (fun u ru => ?_) d1 d2)
  refine Calls.spliced_cons (wpAny_Name ?_ d3)
  obtain ⟨m, hns, _⟩ := I.loc
  refine wpAny_loadName_local I.ok.kind hz hns (by rw [hns.eq_nsMap]; exact hm) (Calls.spliced_nil ⟨show 2 ≤ sizeLine from by decide, ?_⟩)
  have p0 : H s.heap.objs.size = none := I.hok.fresh (Nat.le_refl _)
  have rel : Vals [V.str wt, V.str ct] [u, .str ct t] := .cons ru (.cons ⟨t, rfl⟩ .nil)
  exact h s.heap.objs.size (upd H s.heap.objs.size (.frz { cls := .type "tuple", data := .seq #[u, .str ct t] 0 } (.tup [.str wt, .str ct]))) _ p0 (Ex.new p0) hn
    (I.laid (t' := s.toks) (fun b u e => Heap.get?_push_of_some _ e) (Nat.le_refl _) ⟨Heap.get?_push_size _ rfl, show 2 ≤ sizeLine from by decide, [u, .str ct t], rel, ⟨_, Heap.get?_push_size _ rfl, rfl, _, rfl⟩⟩) ⟨_, _, u, t, rfl, upd_same, rfl, rfl, l1, l2⟩
/-- a written text: one token more -/
theorem en_str {N : Nat} {Q : VN} {c : Str} {k : Nat} {pos : Pos} (h : Q (.str c) H (N + 1)) : eN X (.Constant (.str c) k pos) σ H N Q := fun pins s hn I => Calls.Constant_str ⟨.str c, H, N + 1, Nat.succ_le_succ hn, I.tok _, ⟨_, rfl⟩, h⟩
end
end Ln
/-! LsN5 -/
set_option Elab.async false
set_option linter.all false
set_option maxRecDepth 100000
namespace Ln
open PySem PySem.Spec PyProof.Rows L2 Lx
open Evl (Ex Ex.refl Ex.trans Ex.mut Ex.new Ev EvT EvL EvU EvA ex_l ex_t ex_rd sq_of st_of sz_of sz_lt fresh_back)
def sgn1 (c : Nat) : Str := ⟨#[c]⟩
def LabP (N : Nat) (vs : List V) (ab : List (Str × Nat)) (H : Hp) : Prop := Paired (fun v q => LabC N q.1 (sgn1 q.2) v H) vs ab
theorem LabP.mono {N N' : Nat} {vs : List V} {ab : List (Str × Nat)} {H H' : Hp} (h : LabP N vs ab H) (hn : N ≤ N') (e : Ex H H') : LabP N' vs ab H' := Paired.mapP h fun _ _ q => q.mono hn e
theorem LabP.up {N : Nat} {vs : List V} {ab : List (Str × Nat)} {H : Hp} {D : Addr} {acc acc' : List V} (h : LabP N vs ab H) (hd : H D = some (.lst acc)) : LabP N vs ab (upd H D (.lst acc')) := Paired.mapP h fun _ _ q => q.up hd
section
variable {X : Cx} {pins : List (Addr × Obj)} {s : Shared} {σ : L2.St} {H : Hp} {N : Nat} {iter iter1 : Expr} {scope : Scope} {y z : Str} {j k : Nat} {pos pos' tpos p1 p2 p3 p4 : Pos} {kk : Nat} {ws : List Str} {zt : Str} {Qf : Value → Shared → Prop} {use : Option (Value → Sem Unit)}
theorem lc2N_core (hc : X.calm = true) (hN : X.N.Nodup) (hn : N ≤ s.toks) (I : Inv X pins σ H s) (ok : BlkOk X.N X.env.scope scope [(y, j), (z, k)]) (hjk : j ≠ k) (hj : X.N[j]? = some y) (hkz : X.N[k]? = some z)
    (hg : ∀ (s : Shared) (H0 : Hp) (C : Addr) (cl : List (Str × Addr)) (fp : List Addr), PG (bk X scope s H0 C cl fp) (.Name y p1) (gName j)) (hs : ∀ x, foldedSetIterable iter X.env x = pure x) (hs1 : ∀ env x, foldedSetIterable iter1 env x = pure x)
    (vy : ∀ (s : Shared) (H0 : Hp) (C : Addr) (cl : List (Str × Addr)) (fp : List Addr), Vis (bk X scope s H0 C cl fp).env.scope y) (lz : ∀ (s : Shared) (H0 : Hp) (C : Addr) (cl : List (Str × Addr)) (fp : List Addr), (bk X scope s H0 C cl fp).env.scope.names.lookup z = some .local)
    (hsrc : eN X iter σ H N fun v H1 N1 => ∃ p, v = .ref p ∧ Ex H H1 ∧ H1 p = some (.tup (ws.map V.str)) ∧ 1 ≤ N1) (hin : ∀ a H', Ex H H' → ∀ (s : Shared) (H0 : Hp) (C : Addr) (cl : List (Str × Addr)) (fp : List Addr), XE (bk X scope s H0 C cl fp) iter1 ((wipe σ [j, k]).set j (some (.str a))) H' (.str zt)) (asc : zt.cps.all (· < 128) = true) (hz : ws.length * zt.cps.toList.length ≤ 100000)
    (hst : ∀ (s : Shared) (H0 : Hp) (C : Addr) (cl : List (Str × Addr)) (fp : List Addr), starEach [.Name y p3, .Name z p4] (bk X scope s H0 C cl fp).env = (false, eval (.Name y p3) (bk X scope s H0 C cl fp).env) :: starEach [.Name z p4] (bk X scope s H0 C cl fp).env ∧ starEach [.Name z p4] (bk X scope s H0 C cl fp).env = (false, eval (.Name z p4) (bk X scope s H0 C cl fp).env) :: starEach [] (bk X scope s H0 C cl fp).env)
    (dy : (y == ("__debug__" : Str)) = false) (dy2 : (y == ("__classdict__" : Str)) = false) (dz : (z == ("__debug__" : Str)) = false)
    (fin : ∀ D C s' m H' N' vs, N' ≤ s'.toks → Inv X pins σ H' s' → H D = none → Ex H H' → H' D = some (.lst vs) → LabP N' vs (ws.flatMap fun a => zt.cps.toList.map fun b => (a, b)) H' → s'.heap.Ns C m → FpOk X pins H' C → compPost (model X.prog X.w) X.A X.xe use Qf (.ref D) C (.ok .next) s') :
    wpAny (model X.prog X.w) X.A (comprehension (.ListComp (.Tuple [.Name y p3, .Name z p4] kk tpos) [⟨.Name y p1, iter, [], 0⟩, ⟨.Name z p2, iter1, [], 0⟩] scope pos) scope X.env pos' (newList []) false (eval iter X.env) use) Qf X.xe s := by
  have frees : ∀ q ∈ scope.names, q.2 = .free → ∃ c, X.env.cells.lookup q.1 = some c := fun q hq e => (ok.free q hq e).elim (fun k => I.ok.has _ (.inl k)) fun k => I.ok.has _ (.inr k)
  refine wpAny_comprehension_free (use := use) rfl hs (closure_ok frees) ok.kind (fun q hq e => by rw [ok.uniq q hq, e]) (thn (hsrc pins s hn I) fun u s1 ⟨v, H1, N1, n1, I1, r1, l, ev, e1, hl, one⟩ => ?_)
  subst ev
  cases r1
  obtain ⟨its0, rv0, pt0, hz0⟩ := I1.tuple (st_of hl)
  refine wpAny_pyIter_tuple pt0 ?_
  have Tn := turn_tuple (P := X.prog) (w := X.w) (K := X.K) (tg := .Name y p1) l s1.heap.objs.size
  generalize hs2 : ({ s1 with heap := s1.heap.push { cls := .type "tuple_iterator", data := .fields #[.ref l, .int 0 0] } } : Shared) = s2
  have n2 : N1 ≤ s2.toks := by rw [← hs2]; exact n1
  have I2 : Inv X pins σ H1 s2 := by rw [← hs2]; exact I1.kept (t' := s1.toks) fun b o e => Heap.get?_push_of_some _ e
  have st2 : s2.heap.IsTupleIter s1.heap.objs.size l 0 := by rw [← hs2]; exact ⟨_, Heap.get?_push_size _ rfl, rfl, rfl⟩
  have f2 : ∀ b ∈ [s1.heap.objs.size], FpOk X pins H1 b := fun b hb => by
    rw [List.mem_singleton.mp hb]
    exact I1.fpOk (Nat.le_refl _) (I1.hok.fresh (Nat.le_refl _))
  generalize s1.heap.objs.size = it at Tn st2 f2 hs2
  refine wpAny_newObj_type (newEnv_comp ?_) (by show 0 ≤ sizeLine; decide)
  have d0 : H1 s2.heap.objs.size = none := I2.hok.fresh (Nat.le_refl _)
  have lt2 : ∀ b ∈ [it], b < s2.heap.objs.size := fun b hb => let ⟨o, e, _⟩ := Tn.obj _ _ st2 b hb; Heap.lt_size e
  generalize hs3 : ({ s2 with heap := s2.heap.push { cls := .type "list", data := .seq ([] : List Value).toArray } } : Shared) = s3
  have I3 : Inv X pins σ (upd H1 s2.heap.objs.size (.lst [])) s3 := by
    rw [← hs3]
    exact I2.laid (t' := s2.toks) (fun b o e => Heap.get?_push_of_some _ e) (Nat.le_refl _) ⟨Nat.zero_le _, [], 0, .nil, Heap.get?_push_size _ rfl⟩
  have n3 : N1 ≤ s3.toks := by rw [← hs3]; exact n2
  have e3 : ∀ b o, s2.heap.get? b = some o → s3.heap.get? b = some o := fun b o e => by rw [← hs3]; exact Heap.get?_push_of_some _ e
  have z3 : s2.heap.objs.size < s3.heap.objs.size := by rw [← hs3]; show _ < (s2.heap.push _).objs.size; rw [Heap.size_push]; exact Nat.lt_succ_self _
  have f3 : ∀ b ∈ [it], FpOk X pins (upd H1 s2.heap.objs.size (.lst [])) b ∧ b < s3.heap.objs.size := fun b hb =>
    ⟨⟨by rw [upd_ne (Nat.ne_of_lt (lt2 b hb))]; exact (f2 b hb).1, (f2 b hb).2⟩, Nat.lt_trans (lt2 b hb) z3⟩
  have st3 : s3.heap.IsTupleIter it l 0 := Tn.keep _ _ _ st2 fun b _ o e => e3 b o e
  generalize s2.heap.objs.size = D at d0 I3 f3 hs3 z3 lt2 ⊢
  have I4 := block_start I3 ok hN f3
  have pg : PG (X.blk s3 (upd H1 D (.lst [])) scope (compEnvC scope (cellsFrom (s3.heap.objs.size + 1) scope.names (cloFrom X.env.cells scope.names [])) s3.heap.objs.size X.env) [it]) (.Name y p1) (gName j) := hg s3 (upd H1 D (.lst [])) s3.heap.objs.size (cellsFrom (s3.heap.objs.size + 1) scope.names (cloFrom X.env.cells scope.names [])) [it]
  have vyc : Vis (X.blk s3 (upd H1 D (.lst [])) scope (compEnvC scope (cellsFrom (s3.heap.objs.size + 1) scope.names (cloFrom X.env.cells scope.names [])) s3.heap.objs.size X.env) [it]).env.scope y := vy s3 (upd H1 D (.lst [])) s3.heap.objs.size (cellsFrom (s3.heap.objs.size + 1) scope.names (cloFrom X.env.cells scope.names [])) [it]
  have lzc : (X.blk s3 (upd H1 D (.lst [])) scope (compEnvC scope (cellsFrom (s3.heap.objs.size + 1) scope.names (cloFrom X.env.cells scope.names [])) s3.heap.objs.size X.env) [it]).env.scope.names.lookup z = some .local := lz s3 (upd H1 D (.lst [])) s3.heap.objs.size (cellsFrom (s3.heap.objs.size + 1) scope.names (cloFrom X.env.cells scope.names [])) [it]
  have hin' : ∀ a H', Ex H H' → XE (X.blk s3 (upd H1 D (.lst [])) scope (compEnvC scope (cellsFrom (s3.heap.objs.size + 1) scope.names (cloFrom X.env.cells scope.names [])) s3.heap.objs.size X.env) [it]) iter1 ((wipe σ [j, k]).set j (some (.str a))) H' (.str zt) := fun a H' e => hin a H' e s3 (upd H1 D (.lst [])) s3.heap.objs.size (cellsFrom (s3.heap.objs.size + 1) scope.names (cloFrom X.env.cells scope.names [])) [it]
  have hst' : starEach [.Name y p3, .Name z p4] (X.blk s3 (upd H1 D (.lst [])) scope (compEnvC scope (cellsFrom (s3.heap.objs.size + 1) scope.names (cloFrom X.env.cells scope.names [])) s3.heap.objs.size X.env) [it]).env = (false, eval (.Name y p3) (X.blk s3 (upd H1 D (.lst [])) scope (compEnvC scope (cellsFrom (s3.heap.objs.size + 1) scope.names (cloFrom X.env.cells scope.names [])) s3.heap.objs.size X.env) [it]).env) :: starEach [.Name z p4] (X.blk s3 (upd H1 D (.lst [])) scope (compEnvC scope (cellsFrom (s3.heap.objs.size + 1) scope.names (cloFrom X.env.cells scope.names [])) s3.heap.objs.size X.env) [it]).env ∧ starEach [.Name z p4] (X.blk s3 (upd H1 D (.lst [])) scope (compEnvC scope (cellsFrom (s3.heap.objs.size + 1) scope.names (cloFrom X.env.cells scope.names [])) s3.heap.objs.size X.env) [it]).env = (false, eval (.Name z p4) (X.blk s3 (upd H1 D (.lst [])) scope (compEnvC scope (cellsFrom (s3.heap.objs.size + 1) scope.names (cloFrom X.env.cells scope.names [])) s3.heap.objs.size X.env) [it]).env) :: starEach [] (X.blk s3 (upd H1 D (.lst [])) scope (compEnvC scope (cellsFrom (s3.heap.objs.size + 1) scope.names (cloFrom X.env.cells scope.names [])) s3.heap.objs.size X.env) [it]).env := hst s3 (upd H1 D (.lst [])) s3.heap.objs.size (cellsFrom (s3.heap.objs.size + 1) scope.names (cloFrom X.env.cells scope.names [])) [it]
  show codeAny _ _ (.compStart (.ListComp (.Tuple [.Name y p3, .Name z p4] kk tpos) [⟨.Name y p1, iter, [], 0⟩, ⟨.Name z p2, iter1, [], 0⟩] scope pos) 0 (.ref it) (.ref D) (compEnvC scope (cellsFrom (s3.heap.objs.size + 1) scope.names (cloFrom X.env.cells scope.names [])) s3.heap.objs.size X.env)) (compPost (model X.prog X.w) X.A X.xe use Qf (.ref D) s3.heap.objs.size) { s3 with heap := pushCells (s3.heap.push { cls := .type "dict", data := .dict #[] }) scope.names }
  have cl : (compEnvC scope (cellsFrom (s3.heap.objs.size + 1) scope.names (cloFrom X.env.cells scope.names [])) s3.heap.objs.size X.env).locals = s3.heap.objs.size := rfl
  have nH3 : ∀ b ∈ [it], (upd H1 D (.lst [])) b = none := fun b hb => (f3 b hb).1.1
  generalize compEnvC scope (cellsFrom (s3.heap.objs.size + 1) scope.names (cloFrom X.env.cells scope.names [])) s3.heap.objs.size X.env = ce at I4 pg vyc lzc hin' hst' cl ⊢
  have xD : Ex H1 (upd H1 D (.lst [])) := Ex.new d0
  have hD3 : (upd H1 D (.lst [])) D = some (.lst []) := upd_same
  generalize upd H1 D (.lst []) = H3 at I3 I4 pg vyc lzc hin' hst' f3 nH3 xD hD3
  generalize hs4 : ({ s3 with heap := pushCells (s3.heap.push { cls := .type "dict", data := .dict #[] }) scope.names } : Shared) = s4 at I4 ⊢
  have n4 : N1 ≤ s4.toks := by rw [← hs4]; exact n3
  have st4 : s4.heap.IsTupleIter it l 0 := Tn.keep _ _ _ st3 fun b _ o e => by rw [← hs4]; exact pushCells_keeps _ _ _ _ (Heap.get?_push_of_some _ e)
  have stat : ∀ {σ1 : L2.St} {Hx : Hp} {sx : Shared}, Inv (X.blk s3 H3 scope ce [it]) [] σ1 Hx sx → (∀ b ∈ [it], Hx b = none) → ∀ b ∈ [it], FpOk (X.blk s3 H3 scope ce [it]) [] Hx b := fun {σ1 Hx sx} J hn b hb =>
    ⟨hn b hb, (J.ok.exf b hb).1, J.ok.exfs b hb, .inl hb, fun x c e => (J.ok.exf b hb).2 x c e, fun p hp => absurd (show p ∈ ([] : List (Addr × Obj)) ++ [] from hp) (by simp)⟩
  let ab : Nat → List (Str × Nat) := fun i => (ws.take i).flatMap fun a => zt.cps.toList.map fun b => (a, b)
  have fl : ∀ l : List Str, (l.flatMap fun a => zt.cps.toList.map fun b => (a, b)).length = l.length * zt.cps.toList.length := fun l => by
    induction l with
    | nil => simp
    | cons u l ih => rw [List.flatMap_cons, List.length_append, ih, List.length_map, List.length_cons, Nat.add_mul]; omega
  have loop : codeAny (model X.prog X.w) X.A (.compLoop (.ListComp (.Tuple [.Name y p3, .Name z p4] kk tpos) [⟨.Name y p1, iter, [], 0⟩, ⟨.Name z p2, iter1, [], 0⟩] scope pos) 0 (.ref it) (.ref D) ce) (compPost (model X.prog X.w) X.A X.xe use Qf (.ref D) s3.heap.objs.size) s4 := by
    refine compLoop2_out (hs1 ce) (fun n sx => ∃ i Hx Nx vs, Nx ≤ sx.toks ∧ 1 ≤ Nx ∧ Inv (X.blk s3 H3 scope ce [it]) [] (wipe σ [j, k]) Hx sx ∧ sx.heap.IsTupleIter it l i ∧ (∀ b ∈ [it], Hx b = none) ∧ n = ws.length - i ∧ i ≤ ws.length ∧ Ex H1 Hx ∧ Hx D = some (.lst vs) ∧ LabP Nx vs (ab i) Hx) ?_ ws.length ⟨0, H3, N1, [], n4, one, I4, st4, nH3, by omega, Nat.zero_le _, xD, hD3, .nil⟩
    rintro n s5 ⟨i, H5, N5, vs, n5, one5, I5, st5, fr5, rfl, hi, x5, hD5, lab5⟩
    have hl5 : SqT X.K H5 l (ws.map V.str) := st_of (x5 _ _ hl)
    by_cases hlt : i < ws.length
    · have hlt' : i < (ws.map V.str).length := by rw [List.length_map]; exact hlt
      refine wpAny_mono (wpAny_toks_of n5 (Tn.item (X.blk s3 H3 scope ce [it]) rfl rfl rfl hc i [] s5 _ H5 (fun _ _ => False) I5 (stat I5 fr5) st5 ⟨ws.map V.str, (ws.map V.str)[i], hl5, by simp [hlt]⟩)) (fun r s6 q => ?_) fun _ _ q => False.elim q.2
      obtain ⟨n6, u, hr, h6⟩ := q
      subst hr
      refine wpAny_mono (wpAny_toks_of n6 h6) (fun _ s7 q => ?_) fun _ _ q => False.elim q.2
      obtain ⟨n7, x, H7, I7, r7, ⟨eH, hx⟩, st7, fr7⟩ := q
      subst eH
      have hx := hx _ hl5
      rw [List.getElem?_map] at hx
      obtain ⟨a, ha, rfl⟩ := Option.map_eq_some_iff.mp hx
      have I7' := I7.pinned (stat I7 fr7) (Tn.obj _ _ st7)
      refine wpAny_mono (wpAny_toks_of n7 (pg.run _ s7 _ H7 (.str a) u (fun σ8 H8 => σ8 = (wipe σ [j, k]).set j (some (.str a)) ∧ H8 = H7) I7' r7 ⟨rfl, rfl⟩)) (fun _ s8 q => ?_) fun _ _ q => False.elim q.2
      obtain ⟨n8, σ8, H8, I8, e8, eH⟩ := q
      subst e8
      subst eH
      refine wpAny_tests_nil ?_
      rw [if_pos rfl]
      -- the inner text
      refine wpAny_mono (wpAny_toks_of n8 (hin' a H8 (e1.trans x5) H8 (Ex.refl H8) (fun v H9 => v = .str zt ∧ Ex H8 H9) (fun H9 e9 => ⟨rfl, e9⟩) _ s8 I8)) (fun u9 s9 q => ?_) fun _ _ q => False.elim q.2
      obtain ⟨n9, v9, H9, I9, r9, ev9, e9⟩ := q
      subst ev9
      obtain ⟨tz, rfl⟩ := r9
      refine wpAny_pyIter_ascii asc ?_
      have q9 : H9 s9.heap.objs.size = none := I9.hok.fresh (Nat.le_refl _)
      have fz : FpOk (X.blk s3 H3 scope ce [it]) ([] ++ pinsAt [it] s7.heap) H9 s9.heap.objs.size := I9.fpOk (Nat.le_refl _) q9
      have x9 : Ex H1 H9 := x5.trans e9
      have hD9 := e9 _ _ hD5
      have lab9 := lab5.mono (Nat.le_refl _) e9
      generalize hs10 : ({ s9 with heap := s9.heap.push { cls := .type "str_ascii_iterator", data := .fields #[.str zt tz, .int 0 0] } } : Shared) = s10
      have I10 : Inv (X.blk s3 H3 scope ce [it]) ([] ++ pinsAt [it] s7.heap) ((wipe σ [j, k]).set j (some (.str a))) H9 s10 := by rw [← hs10]; exact I9.kept (t' := s9.toks) fun b o e => Heap.get?_push_of_some _ e
      have n10 : N5 ≤ s10.toks := by rw [← hs10]; exact n9
      have st10 : s10.heap.IsStrIter s9.heap.objs.size "str_ascii_iterator" zt tz 0 := by rw [← hs10]; exact ⟨_, Heap.get?_push_size _ rfl, rfl, rfl⟩
      generalize s9.heap.objs.size = it1 at q9 fz st10 hs10 ⊢
      have inner : codeAny (model X.prog X.w) X.A (.compLoop (.ListComp (.Tuple [.Name y p3, .Name z p4] kk tpos) [⟨.Name y p1, iter, [], 0⟩, ⟨.Name z p2, iter1, [], 0⟩] scope pos) 1 (.ref it1) (.ref D) ce)
          (fun r s' => match r with
            | .ok _ => ∃ m, m < ws.length - i ∧ ∃ i Hx Nx vs, Nx ≤ s'.toks ∧ 1 ≤ Nx ∧ Inv (X.blk s3 H3 scope ce [it]) [] (wipe σ [j, k]) Hx s' ∧ s'.heap.IsTupleIter it l i ∧ (∀ b ∈ [it], Hx b = none) ∧ m = ws.length - i ∧ i ≤ ws.length ∧ Ex H1 Hx ∧ Hx D = some (.lst vs) ∧ LabP Nx vs (ab i) Hx
            | .error _ => False) s10 := by
        refine compLoop2_in (fun n sx => ∃ i' Hx Nx vs, Nx ≤ sx.toks ∧ 1 ≤ Nx ∧ Inv (X.blk s3 H3 scope ce [it]) ([] ++ pinsAt [it] s7.heap) ((wipe σ [j, k]).set j (some (.str a))) Hx sx ∧ sx.heap.IsStrIter it1 "str_ascii_iterator" zt tz i' ∧ Hx it1 = none ∧ n = zt.cps.toList.length - i' ∧ i' ≤ zt.cps.toList.length ∧ Ex H1 Hx ∧ Hx D = some (.lst vs) ∧ LabP Nx vs (ab i ++ (zt.cps.toList.take i').map fun b => (a, b)) Hx) ?_ zt.cps.toList.length ⟨0, H9, N5, vs, n10, one5, I10, st10, q9, by omega, Nat.zero_le _, x9, hD9, by rw [List.take_zero, List.map_nil, List.append_nil]; exact lab9⟩
        rintro n s11 ⟨i', H11, N11, vs', n11, one11, I11, st11, fr11, rfl, hi', x11, hD11, lab11⟩
        obtain ⟨_, g1, g2, g3, g4, g5⟩ := fz
        by_cases hlt1 : i' < zt.cps.toList.length
        · have hb : zt.cps.toList[i']? = some (zt.cps.toList[i']'hlt1) := List.getElem?_eq_getElem hlt1
          generalize zt.cps.toList[i']'hlt1 = c at hb
          refine wpAny_pyNext_ascii_item st11 (c := c) (by rw [← Array.getElem?_toList]; exact hb) fun h12 st12 sb12 => ?_
          have I12 : Inv (X.blk s3 H3 scope ce [it]) ([] ++ pinsAt [it] s7.heap) ((wipe σ [j, k]).set j (some (.str a))) H11 { s11 with heap := h12, toks := s11.toks + 1 } := I11.turned (fun b o hb e => (sb12.2 b hb).trans e) fr11 g1 g3 g4 g5
          obtain ⟨o12, eo, co, d12⟩ := id st12
          refine go_of (s := { s11 with heap := h12, toks := s11.toks + 1 }) eo co d12 (by decide) ?_
          have jz : ((wipe σ [j, k]).set j (some (.str a)))[j]? = some (some (.str a)) := List.getElem?_set_self (by rw [wipe_length]; have := I.len; rw [this]; exact (List.getElem?_eq_some_iff.mp hj).1)
          have I12p := I12.pinned (fp := [it1]) (fun b hb => by
            rw [List.mem_singleton.mp hb]
            exact ⟨fr11, g1, g2, g3, g4, g5⟩) fun b hb => by
            rw [List.mem_singleton.mp hb]
            exact ⟨o12, eo, fun v q => by rw [d12] at q; cases q⟩
          refine wpAny_assign_Name (store_raw (X := X.blk s3 H3 scope ce [it]) (v := .str (sgn1 c)) I12p hN hkz lzc ⟨_, rfl⟩ fun h13 I13 sb13 ns13 => ?_)
          refine wpAny_tests_nil ?_
          rw [if_pos rfl]
          have I13' : Inv (X.blk s3 H3 scope ce [it]) (([] ++ pinsAt [it] s7.heap) ++ pinsAt [it1] h12) (((wipe σ [j, k]).set j (some (.str a))).set k (some (.str (sgn1 c)))) H11 { s11 with heap := h13, toks := s11.toks + 1 + 1 } := I13
          refine pair_raw (X := X.blk s3 H3 scope ce [it]) (N := s11.toks + 1 + 1) (Nat.le_refl _) I13' hj vyc (by rw [List.getElem?_set_ne (fun q => hjk q.symm)]; exact jz) lzc ns13 (Nat.lt_of_lt_of_le one11 n11) (show s11.toks < s11.toks + 1 + 1 from by omega) (fun p H14 s14 p0 x14 n14 I14 lc14 => ?_) dy dy2 dz hst'.1 hst'.2
          have hD14 := x14 _ _ hD11
          have lv : vs'.length ≤ 100000 - 1 := by
            have e := paired_len lab11
            rw [e, List.length_append, fl, List.length_take, List.length_map, List.length_take]
            have m1 : min i ws.length = i := by omega
            have m2 : min i' zt.cps.toList.length = i' := by omega
            rw [m1, m2]
            have : (i + 1) * zt.cps.toList.length ≤ ws.length * zt.cps.toList.length := Nat.mul_le_mul_right _ hlt
            rw [Nat.add_mul] at this
            omega
          refine wpAny_mono (wpAny_toks_of n14 (app_ok (X := X.blk s3 H3 scope ce [it]) (E := fun _ _ => False) (y := .ref p) (Q := fun _ sx => Inv (X.blk s3 H3 scope ce [it]) (([] ++ pinsAt [it] s7.heap) ++ pinsAt [it1] h12) (((wipe σ [j, k]).set j (some (.str a))).set k (some (.str (sgn1 c)))) (upd H14 D (.lst (vs' ++ [.ref p]))) sx) I14 hD14 (sz_lt (show vs'.length < 100000 from by omega)) rfl fun sx Ix => Ix)) (fun _ sx q => ?_) fun _ _ q => False.elim q.2
          obtain ⟨nx, Ix⟩ := q
          have pk : ∀ o, h12.get? it1 = some o → sx.heap.get? it1 = some o ∧ (upd H14 D (.lst (vs' ++ [.ref p]))) it1 = none := fun o e =>
            let q := Ix.pin (it1, o) (List.mem_append_right _ (List.mem_append_right _ (mem_pinsAt (List.mem_singleton.mpr rfl) e)))
            ⟨q.1, q.2.1⟩
          refine ⟨zt.cps.toList.length - (i' + 1), by omega, i' + 1, _, s11.toks + 1 + 1, vs' ++ [.ref p], nx, by omega, Ix.unpinned.weak (by simp) (fun q v' e => ?_), ⟨o12, (pk _ eo).1, co, d12⟩, (pk _ eo).2, rfl, hlt1, Ex.mut (x11.trans x14) d0, upd_same, ?_⟩
          · by_cases ek : q = k
            · subst ek
              rw [List.getElem?_set_ne hjk] at e
              exact absurd (show q ∈ [j, q] from List.mem_cons_of_mem _ (List.mem_cons_self ..)) (wipe_some e).2
            · rw [List.getElem?_set_ne (fun w => ek w.symm)]
              exact e
          · rw [List.take_add_one, hb, List.map_append, ← List.append_assoc]
            exact paired_snoc ((lab11.mono (by omega) x14).up hD14) (lc14.up hD14)
        · have ei : i' = zt.cps.toList.length := by omega
          subst ei
          refine wpAny_pyNext_ascii_end (I11.ok.hd hc) st11 (by rw [← Array.getElem?_toList]; exact List.getElem?_eq_none (Nat.le_refl _)) fun h12 sb12 => ?_
          have I12 : Inv (X.blk s3 H3 scope ce [it]) ([] ++ pinsAt [it] s7.heap) ((wipe σ [j, k]).set j (some (.str a))) H11 { s11 with heap := h12 } := I11.turned (t' := s11.toks) (fun b o hb e => sb12 b o hb e) fr11 g1 g3 g4 g5
          have pk : ∀ b ∈ [it], ∀ o, s7.heap.get? b = some o → h12.get? b = some o ∧ H11 b = none := fun b hb o e =>
            let q := I12.pin (b, o) (List.mem_append_right _ (List.mem_append_right _ (mem_pinsAt hb e)))
            ⟨q.1, q.2.1⟩
          refine ⟨ws.length - (i + 1), by omega, i + 1, H11, N11, vs', n11, one11, (I12.unpinned (pins := [])).weak (by rw [List.length_set]) (fun q v' e => ?_), Tn.keep _ _ _ st7 fun b hb o e => (pk b hb o e).1, fun b hb => ?_, rfl, hlt, x11, hD11, ?_⟩
          · by_cases ek : q = j
            · exact absurd (show q ∈ [j, k] from by rw [ek]; exact List.mem_cons_self ..) (wipe_some e).2
            · rw [List.getElem?_set_ne (fun w => ek w.symm)]
              exact e
          · obtain ⟨o, e, _⟩ := Tn.obj _ _ st7 b hb
            exact (pk b hb o e).2
          · have : ab (i + 1) = ab i ++ (zt.cps.toList.map fun b => (a, b)) := by
              simp only [ab]
              rw [List.take_add_one, ha, List.flatMap_append]
              simp
            rw [List.take_length] at lab11
            rw [this]
            exact lab11
      exact compStart1_ok inner (wpAny_pyIter_striter_ascii st10 inner)
    · have ei : i = ws.length := by omega
      subst ei
      refine wpAny_mono (wpAny_toks_of n5 (Tn.done (X.blk s3 H3 scope ce [it]) rfl rfl rfl hc _ [] s5 _ H5 (fun _ _ => False) I5 (stat I5 fr5) st5 ⟨ws.map V.str, hl5, by rw [List.length_map]; exact Nat.le_refl _⟩)) (fun r s6 q => ?_) fun _ _ q => False.elim q.2
      obtain ⟨n6, hr, I6⟩ := q
      subst hr
      have I7 : Inv X pins σ H5 s6 := I3.call' (ch := [it]) I6.os I6.base I6.hok I6.bare fun b hb => ⟨(f3 b hb).1.2.2.2.1, (f3 b hb).1.2.1, (f3 b hb).1.2.2.2.2.1, (f3 b hb).1.2.2.2.2.2⟩
      have nC : H5 s3.heap.objs.size = none := by
        have q : H5 ce.locals = none := I6.free
        rw [cl] at q
        exact q
      obtain ⟨m, hm, _⟩ := I6.loc
      have hm : s6.heap.Ns ce.locals m := hm
      rw [cl] at hm
      have lab5 : LabP N5 vs (ws.flatMap fun a => zt.cps.toList.map fun b => (a, b)) H5 := by
        have := lab5
        simp only [ab, List.take_length] at this
        exact this
      exact fin D s3.heap.objs.size s6 m H5 N5 vs n6 I7 (fresh_back e1 d0) (e1.trans x5) hD5 lab5 hm (I3.fpOk (Nat.le_refl _) nC)
  exact codeAny_compStart_list loop (Tn.self X.A 0 _ _ _ st4 loop)
end
end Ln
/-! LsN6 -/
set_option Elab.async false
set_option linter.all false
set_option maxRecDepth 100000
namespace Ls
open PySem PySem.Spec PyProof.Rows L2 Lx Ln
open Evl (Ex Ex.refl Ex.trans Ex.mut Ex.new Ev EvT EvL EvU EvA ex_l ex_t ex_rd sq_of st_of sz_of sz_lt fresh_back)
open Lsm (X5 O3 Y4 L10 Le Wr Lb Qn Cf)
section
open Builtin Builtin.Str
/-- the first place of y in x, if any -/
def cut1 (x y : Str) : List Nat := occurrences x y 0 x.length 1
def rep1 (x y z : Str) : Str := glued z (partsBetween x (cut1 x y) y.length)
theorem rep4 (x y z : Str) (t u v k : Tok) : «str.replace» ⟨[.str x t, .str y u, .str z v, .int 1 k], []⟩ =
    (if ((cut1 x y).isEmpty || (y.length == 0 && z.length == 0)) = true then (do rule "str.replace.nothing"; ret (.str x t)) else
      (do let same ← isSame (.str y u) (.str z v)
          if same = true then (do rule "str.replace.old-is-new"; ret (.str x t)) else
          if tooLong (x.length + (cut1 x y).length * z.length) = true then unsupported "str.replace:memory" else retStr (rep1 x y z))) := by
  show (do let limit ← countLimit "str.replace" (some (.int 1 k)) (x.length + 1); _) = _
  rw [countLimit_int "str.replace" 1 k (x.length + 1) (by decide)]
  rfl
theorem gives4 (x y z : Str) (t u v k : Tok) (h0 : (u == 0 || v == 0) = false) (h1 : (u == v) = false) (h2 : (y == z) = false) (h3 : ((cut1 x y).isEmpty || (y.length == 0 && z.length == 0)) = false) (h4 : tooLong (x.length + (cut1 x y).length * z.length) = false) :
    Gives («str.replace» ⟨[.str x t, .str y u, .str z v, .int 1 k], []⟩) (.str (rep1 x y z)) := by
  rw [rep4, h3, isSame_str_other y z u v h0 h1 h2, h4]
  exact .of_eq rfl
end
/-- what lacking computes -/
theorem lack_all : ∀ f ∈ [true, false], ∀ l ∈ Lsm.allL, ∀ k ∈ Lsm.allK, (match l.rem k with
    | none => true
    | some l' => !((cut1 (lS f l) (kS f k)).isEmpty || ((kS f k).length == 0 && ("" : Str).length == 0)) && !(Builtin.Str.tooLong ((lS f l).length + (cut1 (lS f l) (kS f k)).length * ("" : Str).length)) && !(kS f k == "") && decide (rep1 (lS f l) (kS f k) "" = lS f l')) = true := by decide +kernel
def LackRun (P : Program) (w : World) (K : PySem.W.Frag) (mg : Str → Option Value) (base : Heap) (k : Nat) (f : Addr) : Prop :=
  ∀ (A : Around) (outer : List Env) (s : Shared) (H : Hp) (N : Nat) (b : Bool) (l l' : L10) (c : Le) (tx u : Tok) (Q : VN), Room k A → Env0 P w K mg base A outer s H → N ≤ s.toks → 0 < u → u < N → l.rem c = some l' → Q (.str (lS b l')) H N →
    codeAny (model P w) A (.call (.ref f) ⟨[.str (lS b l) tx, .str (kS b c) u], []⟩) (RN outer P w H s Q) s
theorem rep_call {prog : Program} {w : World} {A : Around} {E : Value → Shared → Prop} {s : Shared} {b : Bool} {l l' : L10} {c : Le} {t u v kt : Tok} {Q : Value → Shared → Prop} (hu : u ≠ 0) (hv : v ≠ 0) (huv : u ≠ v) (hl : l.rem c = some l')
    (hq : ∀ t' n, s.toks ≤ n → Q (.str (lS b l') t') { s with toks := n }) : wpAny (model prog w) A (call (.builtin "str.replace") [.str (lS b l) t, .str (kS b c) u, .str "" v, .int 1 kt]) Q E s := by
  have la := lack_all b (by cases b <;> decide) l (Lsm.all_l l) c (all_k c)
  rw [hl] at la
  simp only [Bool.and_eq_true, Bool.not_eq_true', decide_eq_true_eq] at la
  obtain ⟨⟨⟨h3, h4⟩, h2⟩, h5⟩ := la
  refine call_gives F.slot_str_replace (typeIs_str _ _ _) F.entry_str_replace (F.args_str_replace_4 _ _ _ _) (gives4 (lS b l) (kS b c) "" t u v kt (by simp [hu, hv]) (by simp [huv]) h2 h3 h4) ?_
  rw [h5]
  refine ⟨?_, hq _ _ (Nat.le_succ _)⟩
  have : ∀ b ∈ [true, false], ∀ l ∈ Lsm.allL, (lS b l).length ≤ sizeLine := by decide +kernel
  exact this b (by cases b <;> decide) l' (Lsm.all_l l')
theorem lack_run {P : Program} {w : World} {K : PySem.W.Frag} {mg : Str → Option Value} {base : Heap} {k : Nat} {f : Addr} {fd : FuncData} {fx : Str} {st : Stmt} {a0 a1 : Str} {Ns : List Str} {p1 p2 apos cpos rpos c0 c1 : Pos} {j0 j1 : Nat} (F : C8.Fun K fx fx st f fd) (S : FnScope Ns [a0, a1] (C8.fnScope st)) (b : Binds K fd [a0, a1] [])
    (hbd : C8.fnBody st = [.Return (some (.Call (.Attribute (.Name a0 p1) "replace" apos) [.Name a1 p2, .Constant (.str "") j0 c0, .Constant (.int 1) j1 c1] [] cpos)) rpos])
    (k0 : (C8.fnScope st).names.lookup a0 = some .local) (k1 : (C8.fnScope st).names.lookup a1 = some .local) (d0 : (a0 == ("__debug__" : Str)) = false) (d1 : (a1 == ("__debug__" : Str)) = false) (hline : (apos.endLine == cpos.line) = true) : LackRun P w K mg base (k + 1) f := by
  obtain ⟨oc, od, dV, kV, doc, pm, an, cdv, ct, osl, rfl, lk, hcd⟩ := F.ex
  intro A outer s H N b' l l' c tx u Q hr e0 hn u0 uN hl q
  have hin : K.In s.heap := e0.mod.kin.keeps fun a o e => (e0.bs a o e).1
  have hlim : s.heap.NoLimit := e0.mod.nolimit.keeps fun a o e => (e0.bs a o e).1
  have rel : Vals [V.str (lS b' l), .str (kS b' c)] [Value.str (lS b' l) tx, .str (kS b' c) u] := .cons ⟨tx, rfl⟩ (.cons ⟨u, rfl⟩ .nil)
  have kinds : ∀ y ∈ [a0, a1].zip [Value.str (lS b' l) tx, .str (kS b' c) u], (C8.fnScope st).names.lookup y.1 = some .local ∨ ((C8.fnScope st).names.lookup y.1 = some .cell ∧ ((cellsFrom (s.heap.objs.size + 1) (C8.fnScope st).names []).lookup y.1).isSome = true) := by
    rintro ⟨nm, v⟩ hy
    exact (S.par nm (List.of_mem_zip hy).1).imp id fun q => ⟨q, PySem.W.cellsFrom_some _ _ _ (.inl q)⟩
  have bt := b s [.str (lS b' l) tx, .str (kS b' c) u] hin rfl
  rw [List.append_nil] at bt
  have nd : [a0, a1].Nodup := by
    have e : [a0, a1] = Ns.take 2 := S.pre.symm
    rw [e]
    exact S.nd.sublist (List.take_sublist _ _)
  refine codeAny_mono (codeAny_toks_of hn (codeAny_call_function hr.depth (hin _ _ lk) rfl S.co S.gen rfl (PySem.W.codeRec_of hin hcd) (bt _ _ _ _ ?_))) fun r s' x => x.2
  refine wpAny_mono (wpAny_toks_of hn (wpAny_newFunctionEnv_cells S.kind kinds fun env he s1 xx => (show (env = envOfC fx (C8.fnScope st) s.heap.objs.size f cdv) ∧ InCallC s s.heap.objs.size (bindL (envOfC fx (C8.fnScope st) s.heap.objs.size f cdv).kindOf ([a0, a1].zip [Value.str (lS b' l) tx, .str (kS b' c) u]) fun _ => none) (cellsFrom (s.heap.objs.size + 1) (C8.fnScope st).names []) (bindC (envOfC fx (C8.fnScope st) s.heap.objs.size f cdv).kindOf ([a0, a1].zip [Value.str (lS b' l) tx, .str (kS b' c) u]) fun _ => none) s1 from by subst he; exact ⟨rfl, xx⟩))) (fun env s1 z => ?_) fun _ _ z => z.2
  obtain ⟨n1, he, xx⟩ := z
  subst he
  refine ⟨hlim.keeps xx.toInCall.keep, codeAny_func ?_⟩
  have I := inv_start (CX := C8.CX0) (P := P) (w := w) (K := K) (mg := mg) (base := base) (E := C8.E0) S hr.hd e0 rfl rel xx
  have hns := xx.toInCall.ns
  have m0 := bindL_get (kindOf := (envOfC fx (C8.fnScope st) s.heap.objs.size f cdv).kindOf) (x := a0) (v := Value.str (lS b' l) tx) (P := [a0, a1]) (vs := [.str (lS b' l) tx, .str (kS b' c) u]) (i := 0) (m := fun _ => none) nd rfl rfl k0
  have m1 := bindL_get (kindOf := (envOfC fx (C8.fnScope st) s.heap.objs.size f cdv).kindOf) (x := a1) (v := Value.str (kS b' c) u) (P := [a0, a1]) (vs := [.str (lS b' l) tx, .str (kS b' c) u]) (i := 1) (m := fun _ => none) nd rfl rfl k1
  rw [hbd]
  refine wpAny_execs_cons (wpAny_Return_some (wpAny_Call_method rfl rfl hline PySem.F.plainAttrs_str PySem.F.slot_str_replace PySem.F.type_str_replace (wpAny_Name (wpAny_loadName_local S.kind k0 hns m0 ?_) d0)))
  refine ⟨typeIs_str _ _ _, (fun _ e => nomatch e), Calls.callWith_builtin rfl (Calls.evalArgs_plain (Calls.spliced_cons ?_))⟩
  refine wpAny_Name (wpAny_loadName_local S.kind k1 hns m1 ?_) d1
  show wpAny _ _ (spliced ((false, eval (.Constant (.str "") j0 c0) (envOfC fx (C8.fnScope st) s.heap.objs.size f cdv)) :: backTo cpos (starEach [.Constant (.int 1) j1 c1] (envOfC fx (C8.fnScope st) s.heap.objs.size f cdv)))) _ _ _
  refine Calls.spliced_cons (Calls.Constant_str ?_)
  show wpAny _ _ (spliced ((false, eval (.Constant (.int 1) j1 c1) (envOfC fx (C8.fnScope st) s.heap.objs.size f cdv)) :: backTo cpos (starEach [] (envOfC fx (C8.fnScope st) s.heap.objs.size f cdv)))) _ _ _
  refine Calls.spliced_cons (wpAny_Constant_int ?_)
  refine Calls.spliced_nil ?_
  refine rep_call (Nat.ne_of_gt u0) (Nat.ne_of_gt (Nat.lt_of_lt_of_le (Nat.lt_of_le_of_lt (Nat.zero_le _) uN) n1)) (Nat.ne_of_lt (Nat.lt_of_lt_of_le uN n1)) hl fun t' n hn' => ?_
  have hn' : s1.toks + 1 + 1 ≤ n := hn'
  exact ⟨N, show N ≤ n from by omega, .str (lS b' l'), H, (I.tok n).os, (I.tok n).bare, (I.tok n).base, (I.tok n).hok, ⟨t', rfl⟩, q⟩
/-- a text whose token is known -/
def rawT (X : Cx) (c : Expr) (σ : L2.St) (H : Hp) (N : Nat) (kt : Str) : Prop := ∀ pins s H1, Ex H H1 → N ≤ s.toks → Inv X pins σ H1 s → wpAny (model X.prog X.w) X.A (eval c X.env) (fun v s' => ∃ u N', v = .str kt u ∧ N ≤ N' ∧ N' ≤ s'.toks ∧ 0 < u ∧ u < N' ∧ Inv X pins σ H1 s') X.xe s
section
variable {X : Cx} {σ : L2.St} {H : Hp} {N : Nat} {a c : Expr} {k j : Nat} {pos p1 p2 : Pos} {Q : VN} {b : Bool} {l l' : L10} {le : Le}
theorem raw_const {kt : Str} {kk : Nat} (h1 : 1 ≤ N) : rawT X (.Constant (.str kt) kk pos) σ H N kt := fun pins s H1 _ hn I =>
  Calls.Constant_str ⟨s.toks, s.toks + 1, rfl, Nat.le_succ_of_le hn, Nat.le_refl _, Nat.lt_of_lt_of_le h1 hn, Nat.lt_succ_self _, I.tok _⟩
theorem raw_lab {i : Nat} {x w kt : Str} {lb : Addr} {kk : Nat} (hσ : σ[i]? = some (some (.ref lb))) (h : LabC N w kt (.ref lb) H) (hN : X.N[i]? = some x := by rfl) (hv : Vis X.env.scope x := by first | exact Or.inl rfl | exact Or.inr (Or.inl rfl) | exact Or.inr (Or.inr rfl))
    (hd : (x == ("__debug__" : Str)) = false := by decide) (hcd : (x == ("__classdict__" : Str)) = false := by decide) : rawT X (.Subscript (.Name x p1) (.Constant (.int 1) kk p2) pos) σ H N kt := fun pins s H1 e1 hn I => by
  obtain ⟨p, o, uw, t, ep, ho, hc, hd', l1, l2⟩ := h
  cases ep
  refine Subscript_ (L2.raw_name hN hv I hσ (fun v r => ?_) hd hcd)
  have e : v = Value.ref lb := r
  subst e
  refine wpAny_Constant_int ?_
  have I1 : Inv X pins σ H1 { s with toks := s.toks + 1 } := I.tok _
  have ho1 : s.heap.get? lb = some o := (I1.hok lb _ (e1 _ _ ho)).1
  refine item_tupleL (s := { s with toks := s.toks + 1 }) (l := [uw, .str kt t]) (j := 1) ⟨o, ho1, hc, _, hd'⟩ (by decide) (by decide) rfl rfl ⟨t, N, rfl, Nat.le_refl _, Nat.le_succ_of_le hn, l1, l2, I1⟩
/-- lacking(letters, letter) -/
theorem en_lack {f : Addr} {fx : Str} (R : LackRun X.prog X.w X.K X.mg X.base k f) (hm : X.mg fx = some (.ref f)) (kp : PySem.W.keepIn X.K (.ref f) = true) (hr : Room j X.A) (ha : XE X a σ H (.str (lS b l))) (hc : rawT X c σ H N (kS b le)) (hl : l.rem le = some l') (q : ∀ H1 N1, Ex H H1 → N ≤ N1 → Q (.str (lS b l')) H1 N1) (hk : k ≤ j := by decide)
    (hg : Gl X fx := by rfl) (hdb : (fx == ("__debug__" : Str)) = false := by decide) (he : starEach [a, c] X.env = (false, eval a X.env) :: starEach [c] X.env := by rfl) (he2 : starEach [c] X.env = (false, eval c X.env) :: starEach [] X.env := by rfl) (hpl : (backTo pos (starEach [c] X.env)).any (·.1) = false := by rfl) :
    eN X (.Call (.Name fx p1) [a, c] [] pos) σ H N Q := by
  refine fun pins s hn I => wpAny_Call_Name_kw (ld_glob I hg hm ?_ hdb)
  refine PySem.W.callWith_K (h₀ := X.base) I.ok.mod.kin kp ?_ he hpl
  rw [he, he2]
  refine Calls.spliced_cons (thnT hn (ha H (Ex.refl H) (fun v H1 => v = .str (lS b l) ∧ Ex H H1) (fun H1 e1 => ⟨rfl, e1⟩) pins s I) fun v1 s1 n1 ⟨v, H1, I1, r1, ev, e1⟩ => ?_)
  subst ev
  obtain ⟨t1, rfl⟩ := r1
  refine Calls.spliced_cons (thn (hc pins s1 H1 e1 n1 I1) fun v2 s2 ⟨u, N', ev, nn, n2, l1, l2, I2⟩ => ?_)
  subst ev
  refine Calls.spliced_nil ⟨I2.kIn, wpAny_call (codeAny_mono (R X.A X.stack s2 H1 N' b l l' le t1 u Q (hr.mono hk) I2.env0 n2 l1 l2 hl (q H1 N' e1 nn)) fun r s3 z => ?_)⟩
  obtain ⟨N3, n3, z⟩ := z
  cases r with
  | error e => exact False.elim z
  | ok fl =>
    cases fl with
    | ret u =>
      obtain ⟨v, H3, I3, r3, q3⟩ := I2.after z
      exact ⟨v, H3, N3, n3, I3, r3, q3⟩
    | _ => exact False.elim z
end
section
variable {P : Program} {w : World} {K : PySem.W.Frag} {mg : Str → Option Value} {base : Heap}
theorem ok_lack (T : Tf K mg) : ∃ f, LackRun P w K mg base 1 f ∧ mg "lacking" = some (.ref f) ∧ PySem.W.keepIn K (.ref f) = true := by
  obtain ⟨f, fd, D, b⟩ := T.d_lacking.ex
  exact ⟨f, lack_run (Ns := ["letters", "letter"]) D.fn (C8.fnScope_by (by decide +kernel)) b rfl rfl rfl (by decide) (by decide) rfl, D.mgf, D.kp⟩
end
end Ls
/-! LsW5 -/
set_option Elab.async false
set_option linter.all false
set_option maxRecDepth 100000
namespace Ln
open PySem PySem.Spec PyProof.Rows L2 Lx
open Evl (Ex Ex.refl Ex.trans Ex.mut Ex.new Ev EvT EvL EvU EvA ex_l ex_t ex_rd sq_of st_of sz_of sz_lt fresh_back)
section
variable {X : Cx} {σ : L2.St} {H : Hp} {N : Nat} {iter iter1 : Expr} {scope : Scope} {y z : Str} {pos tpos p1 p2 p3 p4 : Pos} {kk : Nat} {ws : List Str} {zt : Str} {Q : VN}
theorem en_lc2 (j k : Nat) (hsrc : eN X iter σ H N fun v H1 N1 => ∃ p, v = .ref p ∧ Ex H H1 ∧ H1 p = some (.tup (ws.map V.str)) ∧ 1 ≤ N1) (hin : ∀ a H', Ex H H' → ∀ (s : Shared) (H0 : Hp) (C : Addr) (cl : List (Str × Addr)) (fp : List Addr), XE (bk X scope s H0 C cl fp) iter1 ((wipe σ [j, k]).set j (some (.str a))) H' (.str zt)) (asc : zt.cps.all (· < 128) = true) (hz : ws.length * zt.cps.toList.length ≤ 100000)
    (q : ∀ D vs H' N', H D = none → Ex H H' → H' D = some (.lst vs) → LabP N' vs (ws.flatMap fun a => zt.cps.toList.map fun b => (a, b)) H' → Q (.ref D) H' N') (hN : X.N.Nodup := by assumption) (hc : X.calm = true := by rfl) (ok : BlkOk X.N X.env.scope scope [(y, j), (z, k)] := by exact blkOk_by (by kernel_rfl)) (hjk : j ≠ k := by decide) (hj : X.N[j]? = some y := by rfl) (hkz : X.N[k]? = some z := by rfl)
    (hg : ∀ (s : Shared) (H0 : Hp) (C : Addr) (cl : List (Str × Addr)) (fp : List Addr), PG (bk X scope s H0 C cl fp) (.Name y p1) (gName j) := by intro _ _ _ _ _; exact pg_name (by assumption) rfl (Or.inl rfl)) (hs : ∀ x, foldedSetIterable iter X.env x = pure x := by intro _; rfl) (hs1 : ∀ env x, foldedSetIterable iter1 env x = pure x := by intro _ _; rfl)
    (vy : ∀ (s : Shared) (H0 : Hp) (C : Addr) (cl : List (Str × Addr)) (fp : List Addr), Vis (bk X scope s H0 C cl fp).env.scope y := by intro _ _ _ _ _; exact Or.inl rfl) (lz : ∀ (s : Shared) (H0 : Hp) (C : Addr) (cl : List (Str × Addr)) (fp : List Addr), (bk X scope s H0 C cl fp).env.scope.names.lookup z = some .local := by intro _ _ _ _ _; rfl)
    (hst : ∀ (s : Shared) (H0 : Hp) (C : Addr) (cl : List (Str × Addr)) (fp : List Addr), starEach [.Name y p3, .Name z p4] (bk X scope s H0 C cl fp).env = (false, eval (.Name y p3) (bk X scope s H0 C cl fp).env) :: starEach [.Name z p4] (bk X scope s H0 C cl fp).env ∧ starEach [.Name z p4] (bk X scope s H0 C cl fp).env = (false, eval (.Name z p4) (bk X scope s H0 C cl fp).env) :: starEach [] (bk X scope s H0 C cl fp).env := by intro _ _ _ _ _; exact ⟨rfl, rfl⟩)
    (dy : (y == ("__debug__" : Str)) = false := by decide) (dy2 : (y == ("__classdict__" : Str)) = false := by decide) (dz : (z == ("__debug__" : Str)) = false := by decide) :
    eN X (.ListComp (.Tuple [.Name y p3, .Name z p4] kk tpos) [⟨.Name y p1, iter, [], 0⟩, ⟨.Name z p2, iter1, [], 0⟩] scope pos) σ H N Q := fun pins s hn I => by
  rw [eval_ListComp]
  refine lc2N_core hc hN hn I ok hjk hj hkz hg hs hs1 vy lz hsrc hin asc hz hst dy dy2 dz fun D C s1 m H1 N1 vs n1 I1 d0 e1 hD lab hm f => ⟨m, hm, fun h2 sb => ?_⟩
  obtain ⟨f0, f1, f2, f3, f4, f5⟩ := f
  exact ⟨.ref D, H1, N1, n1, I1.turned (t' := s1.toks) (fun b o hb e => (sb.2 b hb).trans e) f0 f1 f3 f4 f5, rfl, q D vs H1 N1 d0 e1 hD lab⟩
end
end Ln
namespace Ls
open PySem PySem.Spec PyProof.Rows L2 Lx Ln
open Evl (Ex Ex.refl Ex.trans Ex.mut Ex.new Ev EvT EvL EvU EvA ex_l ex_t ex_rd sq_of st_of sz_of sz_lt fresh_back)
open Lsm (X5 O3 Y4 L10 Le Wr Lb Qn Cf)
section
variable {P : Program} {w : World} {K : PySem.W.Frag} {mg : Str → Option Value} {base : Heap} {C : Addr}
def hands : List Str := ["look", "do", "stop"]
def labs (s : Str) : List (Str × Nat) := hands.flatMap fun a => s.cps.toList.map fun b => (a, b)
def spLL (K : PySem.W.Frag) (C : Addr) : SpN := fun vs H N Q => ∃ w W, vs = [.ref w] ∧ WAt K C H w W ∧ W.sorts.cps.all (· < 128) = true ∧ W.sorts.length ≤ 10 ∧ ∀ l vs H' N', H l = none → Ex H H' → H' l = some (.lst vs) → LabP N' vs (labs W.sorts) H' → Q (.ref l) H' N'
theorem ok_list_labels (T : Tf K mg) (hC : WC K C) (F : MF K C "list_labels" "Watch.list_labels" (meth 53 6) ["self"]) : MetT P w K mg base 1 C "list_labels" (spLL K C) := by
  refine metT_of (Ns := ["self", "word", "letter"]) F (by decide +kernel) (fun vs H N Q ⟨w, W, e, _⟩ => by rw [e]; rfl) fun f cdv A outer s H N vs Q hr nd h => ?_
  obtain ⟨w, W, rfl, hW, asc, hl, q⟩ := h
  refine bn_ret (en_lc2 (ws := hands) (zt := W.sorts) 1 2 (en_tup (an_cons (en_str (an_cons (en_str (an_cons (en_str (an_nil ⟨Nat.le_of_ble_eq_true rfl, fun p hp => ⟨p, rfl, Ex.new hp, upd_same, Nat.le_add_left _ _⟩⟩)))))))) (fun a H' e _ _ _ _ _ => x_fld (x_var 0) (hW.mono e).hw hC.cl hC.n4 hW.f4) asc (by
    have : W.sorts.cps.toList.length = W.sorts.length := by rw [Array.length_toList] <;> rfl
    show 3 * _ ≤ _
    omega) q)
end
end Ls
/-! LsW6 -/
set_option Elab.async false
set_option linter.all false
set_option maxRecDepth 100000
namespace Ls
open PySem PySem.Spec PyProof.Rows L2 Lx Ln
open Evl (Ex Ex.refl Ex.trans Ex.mut Ex.new Ev EvT EvL EvU EvA ex_l ex_t ex_rd sq_of st_of sz_of sz_lt fresh_back)
open Lsm (X5 O3 Y4 L10 Le Wr Lb Qn Cf)
/-! ### labels -/
def code (f : Bool) : Le → Nat | .a => if f then 83 else 67 | .x => 88 | .y => 89
theorem sgn_code (f : Bool) (k : Le) : sgn1 (code f k) = kS f k := by cases k <;> cases f <;> decide
theorem code_in (f : Bool) (l : L10) (k : Le) : decide (code f k ∈ (lS f l).cps.toList) = (l.rem k).isSome := by cases l <;> cases k <;> cases f <;> decide
def lbT (f : Bool) : Lb → List Str
  | .putY => ["put", "y", "-"] | .putZ => ["put", "z", "-"] | .putX o => ["put", "x", oS o] | .turn o => ["turn", "x", oS o] | .markY => ["mark", "y"] | .strikeX => ["strike", "x"] | .markX => ["mark", "x"]
  | .look k => ["look", kS f k] | .do_ k => ["do", kS f k] | .stop k => ["stop", kS f k]
def TupR (ts : List Str) : V → Hp → Prop := fun v H => ∃ p, v = .ref p ∧ H p = some (.tup (ts.map V.str))
def LbR (f : Bool) : Lb → Nat → V → Hp → Prop
  | .look k => fun N => LabC N "look" (sgn1 (code f k))
  | .do_ k => fun N => LabC N "do" (sgn1 (code f k))
  | .stop k => fun N => LabC N "stop" (sgn1 (code f k))
  | lb => fun _ => TupR (lbT f lb)
theorem LabC.sq {K : PySem.W.Frag} {N : Nat} {w c : Str} {p : Addr} {H : Hp} (h : LabC N w c (.ref p) H) : SqT K H p [.str w, .str c] := by
  obtain ⟨q, o, uw, t, e, h1, _⟩ := h
  cases e
  exact .inl (.inr ⟨o, h1⟩)
theorem LbR.ref {f : Bool} {lb : Lb} {N : Nat} {v : V} {H : Hp} (h : LbR f lb N v H) : ∃ p, v = .ref p := by
  cases lb <;> first | exact (let ⟨p, e, _⟩ := h; ⟨p, e⟩) | exact (let ⟨p, _, _, _, e, _⟩ := h; ⟨p, e⟩)
theorem LbR.sq {K : PySem.W.Frag} {f : Bool} {lb : Lb} {N : Nat} {p : Addr} {H : Hp} (h : LbR f lb N (.ref p) H) : SqT K H p ((lbT f lb).map V.str) := by
  cases lb with
  | look k => have := LabC.sq (K := K) h; rw [sgn_code] at this; exact this
  | do_ k => have := LabC.sq (K := K) h; rw [sgn_code] at this; exact this
  | stop k => have := LabC.sq (K := K) h; rw [sgn_code] at this; exact this
  | _ =>
    obtain ⟨q, e, h1⟩ := h
    cases e
    exact st_of h1
theorem LbR.mono {f : Bool} {lb : Lb} {N N' : Nat} {v : V} {H H' : Hp} (h : LbR f lb N v H) (hn : N ≤ N') (e : Ex H H') : LbR f lb N' v H' := by
  cases lb with
  | look k => exact LabC.mono h hn e
  | do_ k => exact LabC.mono h hn e
  | stop k => exact LabC.mono h hn e
  | _ => obtain ⟨q, e1, h1⟩ := h; exact ⟨q, e1, e _ _ h1⟩
/-! ### outcome -/
def OutR (f : Bool) : Option (Lsm.S × Wr) → V → Hp → Prop
  | none => fun v _ => v = .non
  | some (t, r) => PrR f t (wS r)
def spOut (K : PySem.W.Frag) : SpN := fun vs H N Q => ∃ w W x lb s l p, vs = [.ref w, .ref l, .ref p] ∧ CwAt K H w W x ∧ LbR x.c.fall lb N (.ref l) H ∧ H p = some (.tup (stV x.c.fall s)) ∧ ∀ v H' N', Ex H H' → N ≤ N' → OutR x.c.fall (Lsm.out (cfg W x) lb s) v H' → Q v H' N'
theorem StR.mono {f : Bool} {o : Option Lsm.S} {v : V} {H H' : Hp} (h : StR f o v H) (e : Ex H H') : StR f o v H' := by
  cases o with
  | none => exact h
  | some t => obtain ⟨p, h1, h2⟩ := h; exact ⟨p, h1, e _ _ h2⟩
/-- return None if behind is None else (behind, "") -/
theorem s_tail {X : Cx} {σ : L2.St} {H : Hp} {v : V} {D : Ends} {f : Bool} {o : Option Lsm.S} {p1 p2 p3 p4 pos : Pos} {x : Str} {k1 k2 k3 : Nat} {rest : List Stmt} (hx : XE X (.Name x p1) σ H v) (hx2 : XE X (.Name x p2) σ H v) (h : StR f o v H) (q : ∀ w H1, Ex H H1 → OutR f (o.map fun t => (t, .no)) w H1 → D.rt w H1)
    (hs : starEach [.Name x p2, .Constant (.str "") k3 p4] X.env = (false, eval (.Name x p2) X.env) :: starEach [.Constant (.str "") k3 p4] X.env := by rfl) (hs2 : starEach [.Constant (.str "") k3 p4] X.env = (false, eval (.Constant (.str "") k3 p4) X.env) :: starEach [] X.env := by rfl) {pa pb pc pd : Pos} :
    XS X (.Return (some (.IfExp (.Compare (.Name x p1) [.Is] [.Constant .none k1 pa] pb) (.Constant .none k2 pc) (.Tuple [.Name x p2, .Constant (.str "") k3 p4] k1 pd) p3)) pos :: rest) D σ H := by
  cases o with
  | none =>
    have ev : v = .non := h
    subst ev
    exact s_retP (xp_ifE (b := true) (P := fun w _ => w = .non) (t_is (t_isN hx x_non) rfl) (fun _ => xp_e x_non) (fun e => nomatch e)) fun w H1 e r => q w H1 e r
  | some t =>
    obtain ⟨p, rfl, hp⟩ := h
    exact s_retP (xp_ifE (b := false) (P := PrR f t "") (t_is (t_isN hx x_non) rfl) (fun e => nomatch e) fun _ => xp_stp (xp_imp (xp_e hx2) fun w H2 e ev => ⟨p, ev, e _ _ hp⟩) x_str hs hs2) fun w H1 e r => q w H1 e r
theorem out_put (c : Cf) (r : R3) (o : O3) (s : Lsm.S) : (putO c r o s).map (fun t => (t, Wr.no)) = Lsm.out c (match r with | .x => .putX o | .y => .putY | .z => .putZ) s := by
  cases r <;> (unfold putO Lsm.out; simp only; split <;> rfl)
theorem out_turn (c : Cf) (o : O3) (s : Lsm.S) : (turnO c o s).map (fun t => (t, Wr.no)) = Lsm.out c (.turn o) s := by
  unfold turnO Lsm.out; simp only; split <;> rfl
theorem out_mark (c : Cf) (m : M3) (s : Lsm.S) : (markO c m s).map (fun t => (t, Wr.no)) = Lsm.out c (match m with | .my => .markY | .sx => .strikeX | .mx => .markX) s := by
  cases m <;> (unfold markO Lsm.out; simp only; split <;> rfl)
theorem out_look (c : Cf) (k : Le) (s : Lsm.S) : (lookO c k s).map (fun t => (t, Wr.no)) = Lsm.out c (.look k) s := by
  unfold lookO Lsm.out
  simp only
  cases Lsm.more c s.l k with
  | none => rfl
  | some l =>
    simp only
    split <;> rfl
section
variable {P : Program} {wd : World} {K : PySem.W.Frag} {mg : Str → Option Value} {base : Heap}
theorem ok_out (T : Tf K mg) : MetT P wd K mg base 6 (cW K) "outcome" (spOut K) := by
  refine metT_of (Ns := ["self", "label", "state", "behind", "left"]) T.m_W_outcome (by decide +kernel) (fun vs H N Q ⟨w, W, x, lb, s, l, p, e, _⟩ => by rw [e]; rfl) fun f cdv A outer sh H N vs Q hr nd h => ?_
  obtain ⟨w, W, x, lb, s, l, p, rfl, hW, hl, hp, q⟩ := h
  have wa := hW.wa
  have hsq : SqT K H l ((lbT x.c.fall lb).map V.str) := hl.sq
  cases lb with
  | putX o =>
    refine bn_b (XS.run ?_)
    refine s_if (t_is (t_eqS (x_ixT (x_var 1) x_int hsq rfl) x_str) (b' := true) (by decide)) (fun _ => ?_) (fun e => nomatch e)
    refine s_setP 3 (xp_meth (R := fun vs _ => vs = [.str (rS .x), .str (oS o), .ref p]) (ok_put T) hr (x_var 0) wa.hw hW.ln (xap_e (x_acons (x_ixT (x_var 1) x_int hsq rfl) (x_acons (x_ixT (x_var 1) x_int hsq rfl) (x_acons (x_var 2) x_anil)))) fun vs H1 e1 ev => by
      rw [ev]
      exact v_put (hW.mono e1) (e1 _ _ hp)) fun v H1 e1 hv => s_then ?_
    exact s_tail (x_var 3) (x_var 3) hv fun w H2 e2 r => q w H2 N (e1.trans e2) (Nat.le_refl _) (by rw [out_put] at r; exact r)
  | putY =>
    refine bn_b (XS.run ?_)
    refine s_if (t_is (t_eqS (x_ixT (x_var 1) x_int hsq rfl) x_str) (b' := true) (by decide)) (fun _ => ?_) (fun e => nomatch e)
    refine s_setP 3 (xp_meth (R := fun vs _ => vs = [.str (rS .y), .str (oS .no), .ref p]) (ok_put T) hr (x_var 0) wa.hw hW.ln (xap_e (x_acons (x_ixT (x_var 1) x_int hsq rfl) (x_acons (x_ixT (x_var 1) x_int hsq rfl) (x_acons (x_var 2) x_anil)))) fun vs H1 e1 ev => by
      rw [ev]
      exact v_put (hW.mono e1) (e1 _ _ hp)) fun v H1 e1 hv => s_then ?_
    exact s_tail (x_var 3) (x_var 3) hv fun w H2 e2 r => q w H2 N (e1.trans e2) (Nat.le_refl _) (by rw [out_put] at r; exact r)
  | putZ =>
    refine bn_b (XS.run ?_)
    refine s_if (t_is (t_eqS (x_ixT (x_var 1) x_int hsq rfl) x_str) (b' := true) (by decide)) (fun _ => ?_) (fun e => nomatch e)
    refine s_setP 3 (xp_meth (R := fun vs _ => vs = [.str (rS .z), .str (oS .no), .ref p]) (ok_put T) hr (x_var 0) wa.hw hW.ln (xap_e (x_acons (x_ixT (x_var 1) x_int hsq rfl) (x_acons (x_ixT (x_var 1) x_int hsq rfl) (x_acons (x_var 2) x_anil)))) fun vs H1 e1 ev => by
      rw [ev]
      exact v_put (hW.mono e1) (e1 _ _ hp)) fun v H1 e1 hv => s_then ?_
    exact s_tail (x_var 3) (x_var 3) hv fun w H2 e2 r => q w H2 N (e1.trans e2) (Nat.le_refl _) (by rw [out_put] at r; exact r)
  | turn o =>
    refine bn_b (XS.run ?_)
    refine s_if (t_is (t_eqS (x_ixT (x_var 1) x_int hsq rfl) x_str) (b' := false) (by decide)) (fun e => nomatch e) fun _ => ?_
    refine s_if (t_is (t_eqS (x_ixT (x_var 1) x_int hsq rfl) x_str) (b' := true) (by decide)) (fun _ => ?_) (fun e => nomatch e)
    refine s_setP 3 (xp_meth (R := fun vs _ => vs = [.str (oS o), .ref p]) (ok_turn T) hr (x_var 0) wa.hw hW.ln (xap_e (x_acons (x_ixT (x_var 1) x_int hsq rfl) (x_acons (x_var 2) x_anil))) fun vs H1 e1 ev => by
      rw [ev]
      exact v_turn (hW.mono e1) (e1 _ _ hp)) fun v H1 e1 hv => s_then (s_then ?_)
    exact s_tail (x_var 3) (x_var 3) hv fun w H2 e2 r => q w H2 N (e1.trans e2) (Nat.le_refl _) (by rw [out_turn] at r; exact r)
  | look k =>
    refine bn_b (XS.run ?_)
    refine s_if (t_is (t_eqS (x_ixT (x_var 1) x_int hsq rfl) x_str) (b' := false) (by decide)) (fun e => nomatch e) fun _ => ?_
    refine s_if (t_is (t_eqS (x_ixT (x_var 1) x_int hsq rfl) x_str) (b' := false) (by decide)) (fun e => nomatch e) fun _ => ?_
    refine s_if (t_is (t_eqS (x_ixT (x_var 1) x_int hsq rfl) x_str) (b' := true) (by decide)) (fun _ => ?_) (fun e => nomatch e)
    refine s_setP 3 (xp_meth (R := fun vs _ => vs = [.str (kS x.c.fall k), .ref p]) (ok_look T) hr (x_var 0) wa.hw hW.ln (xap_e (x_acons (x_ixT (x_var 1) x_int hsq rfl) (x_acons (x_var 2) x_anil))) fun vs H1 e1 ev => by
      rw [ev]
      exact v_look (hW.mono e1) (e1 _ _ hp)) fun v H1 e1 hv => s_then (s_then (s_then ?_))
    exact s_tail (x_var 3) (x_var 3) hv fun w H2 e2 r => q w H2 N (e1.trans e2) (Nat.le_refl _) (by rw [out_look] at r; exact r)
  | markY =>
    obtain ⟨l', el, hl'⟩ := hl
    cases el
    refine bn_b (XS.run ?_)
    refine s_if (t_is (t_eqS (x_ixT (x_var 1) x_int hsq rfl) x_str) (b' := false) (by decide)) (fun e => nomatch e) fun _ => ?_
    refine s_if (t_is (t_eqS (x_ixT (x_var 1) x_int hsq rfl) x_str) (b' := false) (by decide)) (fun e => nomatch e) fun _ => ?_
    refine s_if (t_is (t_eqS (x_ixT (x_var 1) x_int hsq rfl) x_str) (b' := false) (by decide)) (fun e => nomatch e) fun _ => ?_
    refine s_if (t_is (t_inU (x_ixT (x_var 1) x_int hsq rfl) (x_tup (x_acons x_str (x_acons x_str x_anil)))) (b' := false) (by decide)) (fun e => nomatch e) fun _ => ?_
    refine s_setP 3 (xp_meth (R := fun vs _ => vs = [.ref l, .ref p]) (ok_mark T) hr (x_var 0) wa.hw hW.ln (xap_e (x_acons (x_var 1) (x_acons (x_var 2) x_anil))) fun vs H1 e1 ev => by
      rw [ev]
      exact v_mark (m := .my) (hW.mono e1) (e1 _ _ hl') (e1 _ _ hp)) fun v H1 e1 hv => s_then (s_then (s_then (s_then ?_)))
    exact s_tail (x_var 3) (x_var 3) hv fun w H2 e2 r => q w H2 N (e1.trans e2) (Nat.le_refl _) (by rw [out_mark] at r; exact r)
  | strikeX =>
    obtain ⟨l', el, hl'⟩ := hl
    cases el
    refine bn_b (XS.run ?_)
    refine s_if (t_is (t_eqS (x_ixT (x_var 1) x_int hsq rfl) x_str) (b' := false) (by decide)) (fun e => nomatch e) fun _ => ?_
    refine s_if (t_is (t_eqS (x_ixT (x_var 1) x_int hsq rfl) x_str) (b' := false) (by decide)) (fun e => nomatch e) fun _ => ?_
    refine s_if (t_is (t_eqS (x_ixT (x_var 1) x_int hsq rfl) x_str) (b' := false) (by decide)) (fun e => nomatch e) fun _ => ?_
    refine s_if (t_is (t_inU (x_ixT (x_var 1) x_int hsq rfl) (x_tup (x_acons x_str (x_acons x_str x_anil)))) (b' := false) (by decide)) (fun e => nomatch e) fun _ => ?_
    refine s_setP 3 (xp_meth (R := fun vs _ => vs = [.ref l, .ref p]) (ok_mark T) hr (x_var 0) wa.hw hW.ln (xap_e (x_acons (x_var 1) (x_acons (x_var 2) x_anil))) fun vs H1 e1 ev => by
      rw [ev]
      exact v_mark (m := .sx) (hW.mono e1) (e1 _ _ hl') (e1 _ _ hp)) fun v H1 e1 hv => s_then (s_then (s_then (s_then ?_)))
    exact s_tail (x_var 3) (x_var 3) hv fun w H2 e2 r => q w H2 N (e1.trans e2) (Nat.le_refl _) (by rw [out_mark] at r; exact r)
  | markX =>
    obtain ⟨l', el, hl'⟩ := hl
    cases el
    refine bn_b (XS.run ?_)
    refine s_if (t_is (t_eqS (x_ixT (x_var 1) x_int hsq rfl) x_str) (b' := false) (by decide)) (fun e => nomatch e) fun _ => ?_
    refine s_if (t_is (t_eqS (x_ixT (x_var 1) x_int hsq rfl) x_str) (b' := false) (by decide)) (fun e => nomatch e) fun _ => ?_
    refine s_if (t_is (t_eqS (x_ixT (x_var 1) x_int hsq rfl) x_str) (b' := false) (by decide)) (fun e => nomatch e) fun _ => ?_
    refine s_if (t_is (t_inU (x_ixT (x_var 1) x_int hsq rfl) (x_tup (x_acons x_str (x_acons x_str x_anil)))) (b' := false) (by decide)) (fun e => nomatch e) fun _ => ?_
    refine s_setP 3 (xp_meth (R := fun vs _ => vs = [.ref l, .ref p]) (ok_mark T) hr (x_var 0) wa.hw hW.ln (xap_e (x_acons (x_var 1) (x_acons (x_var 2) x_anil))) fun vs H1 e1 ev => by
      rw [ev]
      exact v_mark (m := .mx) (hW.mono e1) (e1 _ _ hl') (e1 _ _ hp)) fun v H1 e1 hv => s_then (s_then (s_then (s_then ?_)))
    exact s_tail (x_var 3) (x_var 3) hv fun w H2 e2 r => q w H2 N (e1.trans e2) (Nat.le_refl _) (by rw [out_mark] at r; exact r)
  | do_ k =>
    refine bn_if (t_is (t_eqS (x_ixT (x_var 1) x_int (hl.sq) rfl) x_str) (b' := false) (by decide)) (fun e => nomatch e) fun _ H1 e1 => ?_
    have hW := hW.mono e1
    have hl := hl.mono (Nat.le_refl _) e1
    have hp := e1 _ _ hp
    have q := fun v H' N' (e : Ex H1 H') => q v H' N' (e1.trans e)
    refine bn_if (t_is (t_eqS (x_ixT (x_var 1) x_int (hl.sq) rfl) x_str) (b' := false) (by decide)) (fun e => nomatch e) fun _ H2 e2 => ?_
    have hW := hW.mono e2
    have hl := hl.mono (Nat.le_refl _) e2
    have hp := e2 _ _ hp
    have q := fun v H' N' (e : Ex H2 H') => q v H' N' (e2.trans e)
    refine bn_if (t_is (t_eqS (x_ixT (x_var 1) x_int (hl.sq) rfl) x_str) (b' := false) (by decide)) (fun e => nomatch e) fun _ H3 e3 => ?_
    have hW := hW.mono e3
    have hl := hl.mono (Nat.le_refl _) e3
    have hp := e3 _ _ hp
    have q := fun v H' N' (e : Ex H3 H') => q v H' N' (e3.trans e)
    refine bn_if (t_is (t_inU (x_ixT (x_var 1) x_int (hl.sq) rfl) (x_tup (x_acons x_str (x_acons x_str x_anil)))) (b' := true) (by decide)) (fun _ H4 e4 => ?_) (fun e => nomatch e)
    have hW := hW.mono e4
    have hl := hl.mono (Nat.le_refl _) e4
    have hp := e4 _ _ hp
    have q := fun v H' N' (e : Ex H4 H') => q v H' N' (e4.trans e)
    have hlab : LabC N "do" (sgn1 (code x.c.fall k)) (.ref l) H4 := hl
    refine bn_if (b := !(s.l.rem k).isSome) (t_is (t_niSign (n := code x.c.fall k) (x_ixT (x_var 1) x_int (LabC.sq hlab) rfl) (x_ixT (x_var 2) x_int (st_of hp) rfl)) (by rw [code_in])) (fun hb H5 e5 => ?_) fun hb H5 e5 => ?_
    · have : s.l.rem k = none := by
        cases z : s.l.rem k with
        | none => rfl
        | some _ => rw [z] at hb; cases hb
      refine bn_b (XS.run (s_ret x_non fun H6 e6 => q _ H6 N (e5.trans e6) (Nat.le_refl _) ?_))
      unfold Lsm.out
      simp only [this]
      rfl
    · obtain ⟨l', hl'⟩ : ∃ l', s.l.rem k = some l' := by
        cases z : s.l.rem k with
        | none => rw [z] at hb; cases hb
        | some l' => exact ⟨l', rfl⟩
      have hW := hW.mono e5
      have hl := hl.mono (Nat.le_refl _) e5
      have hp := e5 _ _ hp
      have q := fun v H' N' (e : Ex H5 H') => q v H' N' (e5.trans e)
      have hlab : LabC N "do" (sgn1 (code x.c.fall k)) (.ref l) H5 := hl
      obtain ⟨lf, LR, lm, lk⟩ := ok_lack (P := P) (w := wd) (base := base) T
      refine bn_nil ?_
      refine bn_asg (g := gName 4) ?_ (pg_name (i := 4) nd rfl (.inl rfl))
      refine en_tup ?_
      refine an_star (en_e ?_)
      refine x_slTo (k := 4) (x_var 2) (st_of hp) rfl (by exact Nat.le_of_ble_eq_true rfl) H5 (Ex.refl _) _ fun p1 H6 _ e6 h6 => ⟨p1, _, rfl, .inl (st_of h6), ?_⟩
      refine an_cons (en_lack (l := s.l) (le := k) LR lm lk hr (x_ixT (x_var 2) x_int (st_of (e6 _ _ hp)) rfl) (by
        rw [← sgn_code]
        exact raw_lab (i := 1) rfl (LabC.mono hlab (Nat.le_refl _) e6)) hl' fun H7 N7 e7 n7 => an_nil ⟨by exact Nat.le_of_ble_eq_true rfl, fun p2 hp2 => ?_⟩)
      have e8 : Ex H5 (upd H7 p2 (.tup (stV x.c.fall { s with l := l' }))) := (e6.trans e7).trans (Ex.new hp2)
      have hleft : (upd H7 p2 (.tup (stV x.c.fall { s with l := l' }))) p2 = some (.tup (stV x.c.fall { s with l := l' })) := upd_same
      show bN _ _ _ _ (upd H7 p2 (.tup (stV x.c.fall { s with l := l' }))) N7
      generalize upd H7 p2 (.tup (stV x.c.fall { s with l := l' })) = H8 at e8 hleft
      have hsq8 : SqT K H8 l ((lbT x.c.fall (.do_ k)).map V.str) := LbR.sq (N := N) (hl.mono (Nat.le_refl _) e8)
      have hW8 := hW.mono e8
      refine bn_b (XS.run ?_)
      refine s_retP (xp_ifE (b := false) (P := PrR x.c.fall (doneO (cfg W x) k { s with l := l' }).1 (wS (doneO (cfg W x) k { s with l := l' }).2)) (t_is (t_eqS (x_ixT (x_var 1) x_int hsq8 rfl) x_str) (by decide)) (fun e => nomatch e) fun _ => xp_meth (R := fun vs _ => vs = [.str (kS x.c.fall k), .ref p2]) (ok_done T) hr (x_var 0) hW8.wa.hw hW8.ln (xap_e (x_acons (x_ixT (x_var 1) x_int hsq8 rfl) (x_acons (x_var 4) x_anil))) fun vs H1 e1 ev => by
        rw [ev]
        exact v_done (hW8.mono e1) (e1 _ _ hleft)) fun v H9 e9 r => q v H9 N7 (e8.trans e9) n7 ?_
      unfold Lsm.out
      simp only [hl']
      exact r
  | stop k =>
    refine bn_if (t_is (t_eqS (x_ixT (x_var 1) x_int (hl.sq) rfl) x_str) (b' := false) (by decide)) (fun e => nomatch e) fun _ H1 e1 => ?_
    have hW := hW.mono e1
    have hl := hl.mono (Nat.le_refl _) e1
    have hp := e1 _ _ hp
    have q := fun v H' N' (e : Ex H1 H') => q v H' N' (e1.trans e)
    refine bn_if (t_is (t_eqS (x_ixT (x_var 1) x_int (hl.sq) rfl) x_str) (b' := false) (by decide)) (fun e => nomatch e) fun _ H2 e2 => ?_
    have hW := hW.mono e2
    have hl := hl.mono (Nat.le_refl _) e2
    have hp := e2 _ _ hp
    have q := fun v H' N' (e : Ex H2 H') => q v H' N' (e2.trans e)
    refine bn_if (t_is (t_eqS (x_ixT (x_var 1) x_int (hl.sq) rfl) x_str) (b' := false) (by decide)) (fun e => nomatch e) fun _ H3 e3 => ?_
    have hW := hW.mono e3
    have hl := hl.mono (Nat.le_refl _) e3
    have hp := e3 _ _ hp
    have q := fun v H' N' (e : Ex H3 H') => q v H' N' (e3.trans e)
    refine bn_if (t_is (t_inU (x_ixT (x_var 1) x_int (hl.sq) rfl) (x_tup (x_acons x_str (x_acons x_str x_anil)))) (b' := true) (by decide)) (fun _ H4 e4 => ?_) (fun e => nomatch e)
    have hW := hW.mono e4
    have hl := hl.mono (Nat.le_refl _) e4
    have hp := e4 _ _ hp
    have q := fun v H' N' (e : Ex H4 H') => q v H' N' (e4.trans e)
    have hlab : LabC N "stop" (sgn1 (code x.c.fall k)) (.ref l) H4 := hl
    refine bn_if (b := !(s.l.rem k).isSome) (t_is (t_niSign (n := code x.c.fall k) (x_ixT (x_var 1) x_int (LabC.sq hlab) rfl) (x_ixT (x_var 2) x_int (st_of hp) rfl)) (by rw [code_in])) (fun hb H5 e5 => ?_) fun hb H5 e5 => ?_
    · have : s.l.rem k = none := by
        cases z : s.l.rem k with
        | none => rfl
        | some _ => rw [z] at hb; cases hb
      refine bn_b (XS.run (s_ret x_non fun H6 e6 => q _ H6 N (e5.trans e6) (Nat.le_refl _) ?_))
      unfold Lsm.out
      simp only [this]
      rfl
    · obtain ⟨l', hl'⟩ : ∃ l', s.l.rem k = some l' := by
        cases z : s.l.rem k with
        | none => rw [z] at hb; cases hb
        | some l' => exact ⟨l', rfl⟩
      have hW := hW.mono e5
      have hl := hl.mono (Nat.le_refl _) e5
      have hp := e5 _ _ hp
      have q := fun v H' N' (e : Ex H5 H') => q v H' N' (e5.trans e)
      have hlab : LabC N "stop" (sgn1 (code x.c.fall k)) (.ref l) H5 := hl
      obtain ⟨lf, LR, lm, lk⟩ := ok_lack (P := P) (w := wd) (base := base) T
      refine bn_nil ?_
      refine bn_asg (g := gName 4) ?_ (pg_name (i := 4) nd rfl (.inl rfl))
      refine en_tup ?_
      refine an_star (en_e ?_)
      refine x_slTo (k := 4) (x_var 2) (st_of hp) rfl (by exact Nat.le_of_ble_eq_true rfl) H5 (Ex.refl _) _ fun p1 H6 _ e6 h6 => ⟨p1, _, rfl, .inl (st_of h6), ?_⟩
      refine an_cons (en_lack (l := s.l) (le := k) LR lm lk hr (x_ixT (x_var 2) x_int (st_of (e6 _ _ hp)) rfl) (by
        rw [← sgn_code]
        exact raw_lab (i := 1) rfl (LabC.mono hlab (Nat.le_refl _) e6)) hl' fun H7 N7 e7 n7 => an_nil ⟨by exact Nat.le_of_ble_eq_true rfl, fun p2 hp2 => ?_⟩)
      have e8 : Ex H5 (upd H7 p2 (.tup (stV x.c.fall { s with l := l' }))) := (e6.trans e7).trans (Ex.new hp2)
      have hleft : (upd H7 p2 (.tup (stV x.c.fall { s with l := l' }))) p2 = some (.tup (stV x.c.fall { s with l := l' })) := upd_same
      show bN _ _ _ _ (upd H7 p2 (.tup (stV x.c.fall { s with l := l' }))) N7
      generalize upd H7 p2 (.tup (stV x.c.fall { s with l := l' })) = H8 at e8 hleft
      have hsq8 : SqT K H8 l ((lbT x.c.fall (.stop k)).map V.str) := LbR.sq (N := N) (hl.mono (Nat.le_refl _) e8)
      have hW8 := hW.mono e8
      refine bn_b (XS.run ?_)
      refine s_retP (xp_ifE (b := true) (P := PrR x.c.fall { s with l := l' } "") (t_is (t_eqS (x_ixT (x_var 1) x_int hsq8 rfl) x_str) (by decide)) (fun _ => xp_stp (xp_imp (xp_e (x_var 4)) fun v H9 e9 ev => ⟨p2, ev, e9 _ _ hleft⟩) x_str) fun e => nomatch e) fun v H9 e9 r => q v H9 N7 (e8.trans e9) n7 ?_
      unfold Lsm.out
      simp only [hl']
      exact r
end
end Ls
/-! LsN7 -/
set_option Elab.async false
set_option linter.all false
set_option maxRecDepth 100000
namespace Ln
open PySem PySem.Spec PyProof.Rows L2 Lx
open Evl (Ex Ex.refl Ex.trans Ex.mut Ex.new Ev EvT EvL EvU EvA ex_l ex_t ex_rd sq_of st_of sz_of sz_lt fresh_back)
section
variable {X : Cx} {st : Stmt} {rest : List Stmt} {σ : L2.St} {H : Hp} {N : Nat}
theorem s_of_b {D : Ends} (h : bT X [st] D σ H) : sT X st D σ H := fun pins s I Γ p hΓ => by
  have z := h pins s I Γ p hΓ
  rw [execs_cons, Sem.wp_bind'] at z
  exact Sem.wp_mono _ Γ _ (fun a p' s' q => by cases a <;> exact q) (fun _ _ _ q => q) p s z
/-- a statement by the hand layer's rules, then the rest -/
theorem bn_st {D : EndsN} (h : bT X [st] { (D.at_ N) with nx := fun σ' H' => bN X rest D σ' H' N } σ H) : bN X (st :: rest) D σ H N := bn_step (s_of_b h)
end
end Ln
namespace Lx
open PySem PySem.Spec PyProof.Rows L2 Evl
section
variable {X : Cx} {es : List Expr} {σ : L2.St} {H : Hp} {pos : Pos} {R : List V → Hp → Prop}
theorem xn_lstP (h : XAP X es σ H R) (hl : ∀ vs H2, R vs H2 → vs.length ≤ 100000) (m : ∀ vs H1 H2, Ex H1 H2 → R vs H1 → R vs H2) : XN X (.List es pos) σ H (fun p H2 => ∃ vs, H2 p = some (.lst vs) ∧ R vs H2) :=
  xn (pe_lst paT) fun H1 e Q q => h H1 e _ fun vs H2 e2 r => ⟨sz_of (hl _ _ r), fun p hp => q p _ (fresh_back e2 hp) (e2.trans (Ex.new hp)) ⟨vs, upd_same, m _ _ _ (Ex.new hp) r⟩⟩
end
end Lx
/-! LsW7 -/
set_option Elab.async false
set_option linter.all false
set_option maxRecDepth 100000
namespace Ls
open PySem PySem.Spec PyProof.Rows L2 Lx Ln
open Evl (Ex Ex.refl Ex.trans Ex.mut Ex.new Ev EvT EvL EvU EvA ex_l ex_t ex_rd sq_of st_of sz_of sz_lt fresh_back)
open Lsm (X5 O3 Y4 L10 Le Wr Lb Qn Cf)
theorem sorts_ok (f : Bool) : (if f then ("SXY" : Str) else ("CXY" : Str)).cps.all (· < 128) = true ∧ (if f then ("SXY" : Str) else ("CXY" : Str)).length ≤ 10 := by cases f <;> exact ⟨by decide +kernel, by decide +kernel⟩
theorem stb_tupR (ts : List Str) : Stb (TupR ts) := stb_tupE
def LbP (f : Bool) (N : Nat) (vs : List V) (ls : List Lb) (H : Hp) : Prop := Paired (fun v lb => LbR f lb N v H) vs ls
theorem LbP.mono {f : Bool} {N N' : Nat} {vs : List V} {ls : List Lb} {H H' : Hp} (h : LbP f N vs ls H) (hn : N ≤ N') (e : Ex H H') : LbP f N' vs ls H' := Paired.mapP h fun _ _ q => q.mono hn e
theorem paired_append {α β : Type} {F : α → β → Prop} : ∀ {xs xs' : List α} {ys ys' : List β}, Paired F xs ys → Paired F xs' ys' → Paired F (xs ++ xs') (ys ++ ys')
  | _, _, _, _, .nil, h => h
  | _, _, _, _, .cons r t, h => .cons r (paired_append t h)
theorem paired_mapM {α β : Type} {F : V → β → Prop} {G : V → α → Prop} {g : α → β} : ∀ {vs : List V} {l : List α}, Paired F vs (l.map g) → (∀ v a, a ∈ l → F v (g a) → G v a) → Paired G vs l
  | [], [], .nil, _ => .nil
  | _ :: _, _ :: _, .cons r t, k => .cons (k _ _ (List.mem_cons_self ..) r) (paired_mapM t fun v a ha => k v a (List.mem_cons_of_mem _ ha))
theorem paired_mapL {α β : Type} {G : V → β → Prop} {g : α → β} : ∀ {vs : List V} {l : List α}, Paired (fun v a => G v (g a)) vs l → Paired G vs (l.map g)
  | _, _, .nil => .nil
  | _, _, .cons r t => .cons r (paired_mapL t)
def handLb : List Lb := [.look .a, .look .x, .look .y, .do_ .a, .do_ .x, .do_ .y, .stop .a, .stop .x, .stop .y]
def lbPair (f : Bool) : Lb → Str × Nat
  | .look k => ("look", code f k) | .do_ k => ("do", code f k) | .stop k => ("stop", code f k) | _ => ("", 0)
theorem labs_col (f : Bool) : labs (if f then "SXY" else "CXY") = handLb.map (lbPair f) := by cases f <;> decide +kernel
theorem lab_hand {f : Bool} {N : Nat} {vs : List V} {H : Hp} (h : LabP N vs (labs (if f then "SXY" else "CXY")) H) : LbP f N vs handLb H := by
  rw [labs_col] at h
  refine paired_mapM h fun v a ha q => ?_
  cases a with
  | look k => exact q
  | do_ k => exact q
  | stop k => exact q
  | putX o => exact absurd ha (by cases o <;> decide)
  | turn o => exact absurd ha (by cases o <;> decide)
  | _ => exact absurd ha (by decide)
section
variable {P : Program} {wd : World} {K : PySem.W.Frag} {mg : Str → Option Value} {base : Heap}
def spLabs (K : PySem.W.Frag) : SpN := fun vs H N Q => ∃ w W x, vs = [.ref w] ∧ CwAt K H w W x ∧ ∀ l vs H' N', H l = none → Ex H H' → H' l = some (.lst vs) → LbP x.c.fall N' vs Lsm.allLb H' → Q (.ref l) H' N'
def ownLb (w : Str) : List (List Str) := ([.no, .y, .z] : List O3).map fun o => [w, "x", oS o]
set_option maxHeartbeats 1000000 in
theorem ok_labels (T : Tf K mg) : MetT P wd K mg base 2 (cW K) "labels" (spLabs K) := by
  refine metT_of (Ns := ["self", "found", "word", "owner"]) T.m_W_labels (by decide +kernel) (fun vs H N Q ⟨w, W, x, e, _⟩ => by rw [e]; rfl) fun f cdv A outer sh H N vs Q hr nd h => ?_
  obtain ⟨w, W, x, rfl, hW, q⟩ := h
  have mT : ∀ ts v H1 H2, Ex H1 H2 → TupR ts v H1 → TupR ts v H2 := fun ts v H1 H2 e h => (stb_tupR ts).ex e h
  refine bn_st (b_setN 1 (R := fun p H1 => ∃ vs, H1 p = some (.lst vs) ∧ Paired (fun v ts => TupR ts v H1) vs ([["put", "y", "-"], ["put", "z", "-"]] : List (List Str))) ?_ fun p H1 p0 e1 ⟨vs1, hl1, r1⟩ => b_nil ?_)
  · refine xn_imp (xn_lstP (R := fun vs H2 => ∃ v r, vs = v :: r ∧ TupR ["put", "y", "-"] v H2 ∧ ∃ v' r', r = v' :: r' ∧ TupR ["put", "z", "-"] v' H2 ∧ r' = []) (xap_cons (xp_u (x_tup (x_acons x_str (x_acons x_str (x_acons x_str x_anil))))) (xap_cons (xp_u (x_tup (x_acons x_str (x_acons x_str (x_acons x_str x_anil))))) xap_nil (mT _)) (mT _)) ?_ ?_) ?_
    · rintro vs H2 ⟨v, r, rfl, _, v', r', rfl, _, rfl⟩
      show 2 ≤ 100000
      decide
    · rintro vs H1 H2 e ⟨v, r, rfl, h1, v', r', rfl, h2, rfl⟩
      exact ⟨v, _, rfl, mT _ _ _ _ e h1, v', _, rfl, mT _ _ _ _ e h2, rfl⟩
    · rintro p H2 _ ⟨vs, hp, v, r, rfl, h1, v', r', rfl, h2, rfl⟩
      exact ⟨_, hp, .cons h1 (.cons h2 .nil)⟩
  -- the loop
  refine bn_st (b_forT (xp_u (xs := (["put", "turn"] : List Str).map V.str) (x_tup (x_acons x_str (x_acons x_str x_anil)))) (pg_name (i := 2) nd rfl (.inr rfl)) fun v H2 e2 ⟨t, et, ht⟩ => ?_)
  subst et
  have g0 : ∀ i, ((["put", "turn"] : List Str).take i).length ≤ 2 := fun i => by rw [List.length_take]; exact Nat.min_le_right _ _
  refine ⟨t, _, fun i σ' H' => (∃ y, σ' = [some (.ref w), some (.ref p), y, none]) ∧ Ex H H' ∧ H' t = some (.tup ((["put", "turn"] : List Str).map V.str)) ∧ ∃ vs, H' p = some (.lst vs) ∧ Paired (fun v ts => TupR ts v H') vs (([["put", "y", "-"], ["put", "z", "-"]] : List (List Str)) ++ ((["put", "turn"] : List Str).take i).flatMap ownLb), rfl, ⟨⟨_, rfl⟩, e1.trans e2, ht, vs1, e2 _ _ hl1, Paired.mapP r1 fun _ _ q => mT _ _ _ _ e2 q⟩, fun i σ' H' q => st_of q.2.2.1, ?_, ?_⟩
  · rintro i x' σ' H' hx ⟨⟨y, rfl⟩, e3, ht3, vs, hp3, r3⟩
    rw [List.getElem?_map] at hx
    obtain ⟨wd', hw, rfl⟩ := Option.map_eq_some_iff.mp hx
    have lv : vs.length ≤ 8 := by
      have := paired_len r3
      have fl := flat_len (g := fun s => (ownLb s).map fun _ => ("" : Str)) (n := 3) (fun _ => Nat.le_refl _) ((["put", "turn"] : List Str).take i)
      have e : ∀ l : List Str, (l.flatMap ownLb).length = l.length * 3 := fun l => by
        induction l with
        | nil => rfl
        | cons a l ih => rw [List.flatMap_cons, List.length_append, ih, List.length_cons, Nat.add_mul]; show 3 + _ = _; omega
      rw [this, List.length_append, e]
      have := g0 i
      show 2 + _ ≤ 8
      omega
    refine b_extN (S := fun q H4 => ∃ ys, H4 q = some (.lst ys) ∧ Paired (fun v ts => TupR ts v H4) ys (ownLb wd')) hp3 (x_var 1) (xn_imp (xn_lc (as := ([.no, .y, .z] : List O3)) (f := fun _ => true) (R := fun o => TupR [wd', "x", oS o]) (Rp := fun o x => x = .str (oS o)) 3 (src_nt (xs := (["-", "y", "z"] : List Str).map V.str) (x_tup (x_acons x_str (x_acons x_str (x_acons x_str x_anil))))) (.cons rfl (.cons rfl (.cons rfl .nil))) (fun o => stb_tupR _) (by decide) fun o x1 H4 ho e4 r _ _ _ _ _ => by
        subst r
        exact ⟨ts_nil, fun _ => xp_u (x_tup (x_acons (x_var 2) (x_acons x_str (x_acons (x_var 3) x_anil))))⟩) fun q H4 _ ⟨ys, h1, h2⟩ => ⟨ys, h1, ?_⟩) (fun q H4 e4 ⟨ys, h1, h2⟩ => ⟨ys, h1, by have := paired_len h2; rw [this]; show _ + 3 ≤ 100000; omega⟩) fun q ys H4 e4 q0 ⟨ys', h1, h2⟩ hy => b_nil ?_
    · rw [filter_yes] at h2
      exact paired_mapL (G := fun v ts => TupR ts v H4) (g := fun o => [wd', "x", oS o]) h2
    · rw [h1] at hy
      cases hy
      have p0' : H p = none := p0
      have hpe : H4 p = some (.lst vs) := e4 _ _ hp3
      have npt : p ≠ t := fun z => by rw [z, ht3] at hp3; cases hp3
      refine ⟨⟨_, rfl⟩, Ex.mut (e3.trans e4) p0', by rw [upd_ne (fun z => npt z.symm)]; exact e4 _ _ ht3, _, upd_same, ?_⟩
      have e : ((["put", "turn"] : List Str).take (i + 1)).flatMap ownLb = ((["put", "turn"] : List Str).take i).flatMap ownLb ++ ownLb wd' := by
        rw [List.take_add_one, hw, List.flatMap_append]
        simp
      rw [e, ← List.append_assoc]
      exact Paired.mapP (paired_append (Paired.mapP r3 fun _ _ q => mT _ _ _ _ e4 q) h2) fun _ _ q => (stb_tupR _).up hpe q
  rintro σ' H' ⟨⟨y, rfl⟩, e3, ht3, vs, hp3, r3⟩
  refine b_nil ?_
  have hW3 := hW.mono e3
  have r3 : LbP x.c.fall N vs [.putY, .putZ, .putX .no, .putX .y, .putX .z, .turn .no, .turn .y, .turn .z] H' := by
    refine paired_mapM (g := lbT x.c.fall) r3 fun v a ha q => ?_
    cases a with
    | look k => exact absurd ha (by cases k <;> decide)
    | do_ k => exact absurd ha (by cases k <;> decide)
    | stop k => exact absurd ha (by cases k <;> decide)
    | _ => exact q
  refine bn_ret (en_lst ?_)
  refine an_star (en_xe (x_var 1) fun H4 e4 => ⟨p, vs, rfl, .inr (sq_of (e4 _ _ hp3)), ?_⟩)
  refine an_cons (en_xp (xp_u (xs := [.str "mark", .str "y"]) (x_tup (x_acons x_str (x_acons x_str x_anil)))) fun v5 H5 e5 t5 => ?_)
  refine an_cons (en_xp (xp_u (xs := [.str "strike", .str "x"]) (x_tup (x_acons x_str (x_acons x_str x_anil)))) fun v6 H6 e6 t6 => ?_)
  refine an_cons (en_xp (xp_u (xs := [.str "mark", .str "x"]) (x_tup (x_acons x_str (x_acons x_str x_anil)))) fun v7 H7 e7 t7 => ?_)
  have hW7 := (((hW3.mono e4).mono e5).mono e6).mono e7
  refine an_star (en_meth0 (ok_list_labels T (wc_W T) T.m_W_list_labels) hr (x_var 0) hW7.wa.hw hW7.ln fun H8 e8 => ⟨w, W, rfl, hW7.wa.mono e8, by rw [hW.es]; exact (sorts_ok x.c.fall).1, by rw [hW.es]; exact (sorts_ok x.c.fall).2, fun l8 vs8 H9 N9 l80 e9 hl9 lab9 => ⟨l8, vs8, rfl, .inr (sq_of hl9), an_nil ?_⟩⟩)
  rw [hW.es] at lab9
  have hand := lab_hand lab9
  have x49 : Ex H' H9 := ((((e4.trans e5).trans e6).trans e7).trans e8).trans e9
  obtain ⟨p5, rfl, h5⟩ := t5
  obtain ⟨p6, rfl, h6⟩ := t6
  obtain ⟨p7, rfl, h7⟩ := t7
  have r9 : LbP x.c.fall N9 (vs ++ (.ref p5 :: .ref p6 :: .ref p7 :: (vs8 ++ []))) ([.putY, .putZ, .putX .no, .putX .y, .putX .z, .turn .no, .turn .y, .turn .z] ++ ([.markY, .strikeX, .markX] ++ (handLb ++ []))) H9 := by
    refine paired_append (paired_mapM (g := id) (by rw [List.map_id]; exact Paired.mapP r3 fun v lb q => (⟨q, trivial⟩ : LbR x.c.fall lb N v H' ∧ True)) fun v a ha q => ?_) ?_
    · have q1 := q.1.mono (Nat.le_refl _) x49
      cases a with
      | look k => exact absurd ha (by cases k <;> decide)
      | do_ k => exact absurd ha (by cases k <;> decide)
      | stop k => exact absurd ha (by cases k <;> decide)
      | _ => exact q1
    · refine .cons (show TupR ["mark", "y"] _ _ from ⟨p5, rfl, (((e6.trans e7).trans e8).trans e9) _ _ h5⟩) (.cons (show TupR ["strike", "x"] _ _ from ⟨p6, rfl, ((e7.trans e8).trans e9) _ _ h6⟩) (.cons (show TupR ["mark", "x"] _ _ from ⟨p7, rfl, (e8.trans e9) _ _ h7⟩) ?_))
      rw [List.append_nil, List.append_nil]
      exact hand
  refine ⟨?_, fun p2 hp2 => ?_⟩
  · have := paired_len r9
    rw [this]
    show 8 + (3 + (9 + 0)) ≤ 100000
    decide
  · have x2 : Ex H9 (upd H9 p2 (.lst (vs ++ (.ref p5 :: .ref p6 :: .ref p7 :: (vs8 ++ []))))) := Ex.new hp2
    exact q p2 _ _ N9 (fresh_back (e3.trans x49) hp2) ((e3.trans x49).trans x2) upd_same (r9.mono (Nat.le_refl _) x2)
end
end Ls
/-! LsW8 -/
set_option Elab.async false
set_option linter.all false
set_option maxRecDepth 100000
namespace Ls
open PySem PySem.Spec PyProof.Rows L2 Lx Ln
open Evl (Ex Ex.refl Ex.trans Ex.mut Ex.new Ev EvT EvL EvU EvA ex_l ex_t ex_rd sq_of st_of sz_of sz_lt fresh_back)
open Lsm (X5 O3 Y4 L10 Le Wr Lb Qn Cf)
/-! ### the watch of a kind -/
inductive L3 where | e | x | xx deriving DecidableEq
def L3.l : L3 → L10 | .e => .e | .x => .x | .xx => .xx
inductive LbK where | put | mark | look | do_ | stop deriving DecidableEq
structure KS where
  y : Y4
  l : L3
  deriving DecidableEq
structure CfK where
  fresh : Bool
  lone : Bool
  mkh : Bool
  op : Bool
  ag : Bool
def L3.isE : L3 → Bool | .e => true | _ => false
def L3.add : L3 → Option L3 | .e => some .x | .x => some .xx | .xx => none
def L3.rem : L3 → Option L3 | .e => none | .x => some .e | .xx => some .x
def outK (c : CfK) (lb : LbK) (s : KS) : Option (KS × Bool) := match lb with
  | .put => if s.y.isNew || (s.y.isGone && !c.fresh) then some ({ s with y := .plain }, false) else none
  | .mark => if s.y.isPlain && (c.mkh && (s.l.isE || (!c.lone || c.op))) then some ({ s with y := .marked }, false) else none
  | .look => if !s.y.isMarked then none else match (if !s.l.isE && c.lone then none else s.l.add) with
    | none => none
    | some l => some ({ s with l := l }, false)
  | .do_ => match s.l.rem with
    | none => none
    | some l => if s.y.isMarked || (s.y.isPlain && !c.ag) then some (⟨.gone, l⟩, s.y.isPlain) else some (⟨s.y, l⟩, false)
  | .stop => match s.l.rem with
    | none => none
    | some l => some (⟨s.y, l⟩, false)
def stK (s : KS) : List V := [.str (yS s.y), .str (lS true s.l.l)]
def cfK (W : Wd) : CfK := ⟨W.B.chk "fresh", W.B.chk "lone", W.mks W.home, W.B.isOpen W.home, W.B.has "again" W.home⟩
def uS : Bool → Str | true => "undue" | false => ""
def lkT : LbK → List Str | .put => ["put", "x", "-"] | .mark => ["mark", "x"] | .look => ["look", "X"] | .do_ => ["do", "X"] | .stop => ["stop", "X"]
def LkR : LbK → Nat → V → Hp → Prop
  | .look => fun N => LabC N "look" (sgn1 88)
  | .do_ => fun N => LabC N "do" (sgn1 88)
  | .stop => fun N => LabC N "stop" (sgn1 88)
  | lb => fun _ => TupR (lkT lb)
theorem LkR.sq {K : PySem.W.Frag} {lb : LbK} {N : Nat} {p : Addr} {H : Hp} (h : LkR lb N (.ref p) H) : SqT K H p ((lkT lb).map V.str) := by
  cases lb with
  | look => exact LabC.sq (K := K) h
  | do_ => exact LabC.sq (K := K) h
  | stop => exact LabC.sq (K := K) h
  | _ =>
    obtain ⟨q, e, h1⟩ := h
    cases e
    exact st_of h1
theorem LkR.mono {lb : LbK} {N N' : Nat} {v : V} {H H' : Hp} (h : LkR lb N v H) (hn : N ≤ N') (e : Ex H H') : LkR lb N' v H' := by
  cases lb with
  | look => exact LabC.mono h hn e
  | do_ => exact LabC.mono h hn e
  | stop => exact LabC.mono h hn e
  | _ => obtain ⟨q, e1, h1⟩ := h; exact ⟨q, e1, e _ _ h1⟩
def PrG (tv : List V) (w : Str) : V → Hp → Prop := fun v H => ∃ p q, v = .ref p ∧ H p = some (.tup [.ref q, .str w]) ∧ H q = some (.tup tv)
theorem xp_prG {X : Cx} {a c : Expr} {pos : Pos} {σ : L2.St} {H : Hp} {tv : List V} {wt : Str} {y1 : Nat} (h1 : XP X a σ H (fun v H2 => ∃ p, v = .ref p ∧ H2 p = some (.tup tv))) (h2 : XE X c σ H (.str wt))
    (hs : starEach (a :: [c]) X.env = (false, eval a X.env) :: starEach [c] X.env := by rfl) (hs2 : starEach [c] X.env = (false, eval c X.env) :: starEach [] X.env := by rfl) : XP X (.Tuple [a, c] y1 pos) σ H (PrG tv wt) := by
  have m : ∀ v H1 H2, Ex H1 H2 → (∃ p, v = V.ref p ∧ H1 p = some (HO.tup tv)) → ∃ p, v = V.ref p ∧ H2 p = some (HO.tup tv) := by
    intro v H1 H2 e h
    obtain ⟨p, h, hp⟩ := h
    exact ⟨p, h, e _ _ hp⟩
  refine xp_imp (xp_pair h1 m h2 hs hs2) ?_
  intro v H2 _ h
  obtain ⟨p, u, h1, h2, q, h3, h4⟩ := h
  subst h3
  exact ⟨p, q, h1, h2, h4⟩
def OutK : Option (KS × Bool) → V → Hp → Prop
  | none => fun v _ => v = .non
  | some (t, r) => PrG (stK t) (uS r)
theorem more3 (B : Bk) (l : L3) : B.more l.l .x = (if !l.isE && B.chk "lone" then none else l.add).map L3.l := by
  unfold Bk.more
  cases l <;> cases B.chk "lone" <;> rfl
theorem l3_e (l : L3) : decide (lS true l.l = "") = l.isE := by cases l <;> decide
theorem rem3 (l : L3) : l.l.rem .x = l.rem.map L3.l := by cases l <;> rfl
section
variable {P : Program} {wd : World} {K : PySem.W.Frag} {mg : Str → Option Value} {base : Heap}
def spOutK (K : PySem.W.Frag) : SpN := fun vs H N Q => ∃ w W lb s l p, vs = [.ref w, .ref l, .ref p] ∧ WAt K (cK K) H w W ∧ LkR lb N (.ref l) H ∧ H p = some (.tup (stK s)) ∧ ∀ v H' N', Ex H H' → N ≤ N' → OutK (outK (cfK W) lb s) v H' → Q v H' N'
set_option maxHeartbeats 1000000 in
theorem ok_outK (T : Tf K mg) : MetT P wd K mg base 5 (cK K) "outcome" (spOutK K) := by
  refine metT_of (Ns := ["self", "label", "state", "behind", "x", "letters", "more"]) T.m_K_outcome (by decide +kernel) (fun vs H N Q ⟨w, W, lb, s, l, p, e, _⟩ => by rw [e]; rfl) fun f cdv A outer sh H N vs Q hr nd h => ?_
  obtain ⟨w, W, lb, s, l, p, rfl, hW, hl, hp, q⟩ := h
  have lnm : ∀ {m}, m ∈ mNames → W.fs.lookup m = none := fun h => hW.ln _ h
  have hsq : SqT K H l ((lkT lb).map V.str) := hl.sq
  have lh : W.home.length ≤ 100 := by
    have := hW.hh
    unfold Bk.kN at this
    obtain ⟨z, hz, e⟩ := List.mem_map.mp this
    rw [← e]
    exact Nat.le_trans (hW.O.nm _ hz).hi (by decide)
  refine bn_st (XS.run (s_un2 4 5 (x_var 2) (st_of hp) (s_nil fun H0 e0 => ?_)))
  have hW := hW.mono e0
  have hl := hl.mono (Nat.le_refl _) e0
  have hsq : SqT K H0 l ((lkT lb).map V.str) := hl.sq
  have q := fun v H' N' (e : Ex H0 H') => q v H' N' (e0.trans e)
  cases lb with
  | put =>
    refine bn_b (XS.run ?_)
    refine s_if (t_is (t_eqS (x_ixT (x_var 1) x_int hsq rfl) x_str) (b' := true) (by decide)) (fun _ => ?_) (fun e => nomatch e)
    refine s_retP (xp_ifE (P := OutK (if s.y.isNew || (s.y.isGone && !W.B.chk "fresh") then some ({ s with y := .plain }, false) else none)) (t_is (t_val (x_meth (ok_may_put T (wc_K T) T.m_K_may_put) hr (x_var 0) hW.hw (lnm (by decide)) (x_acons (x_var 4) x_anil) (v_mayPut hW))) (put_y _ _)) (fun hb => ?_) fun hb => ?_) fun v H1 e1 r => q v H1 N e1 (Nat.le_refl _) r
    · rw [if_pos hb]
      exact xp_prG (tv := stK { s with y := .plain }) (xp_u (x_tup (x_acons x_str (x_acons (x_var 5) x_anil)))) x_str
    · rw [if_neg (by rw [hb]; exact Bool.false_ne_true)]
      exact xp_e x_non
  | mark =>
    refine bn_b (XS.run ?_)
    refine s_if (t_is (t_eqS (x_ixT (x_var 1) x_int hsq rfl) x_str) (b' := false) (by decide)) (fun e => nomatch e) fun _ => s_then ?_
    refine s_if (t_is (t_eqS (x_ixT (x_var 1) x_int hsq rfl) x_str) (b' := true) (by decide)) (fun _ => ?_) (fun e => nomatch e)
    refine s_retP (xp_ifE (P := OutK (if s.y.isPlain && W.mayMark W.home s.l.l then some ({ s with y := .marked }, false) else none)) (t_w (w_and (t_is (t_eqS (x_var 4) x_str) (y_plain s.y)) fun _ => w_and1 (t_val (x_meth (ok_may_mark T (wc_K T) T.m_K_may_mark) hr (x_var 0) hW.hw (lnm (by decide)) (x_acons (x_fld (x_var 0) hW.hw T.cl_K T.nK_home hW.f2) (x_acons (x_var 5) x_anil)) (v_mayMark hW hW.hh))))) (fun hb => ?_) fun hb => ?_) fun v H1 e1 r => q v H1 N e1 (Nat.le_refl _) ?_
    · rw [if_pos hb]
      exact xp_prG (tv := stK { s with y := .marked }) (xp_u (x_tup (x_acons x_str (x_acons (x_var 5) x_anil)))) x_str
    · rw [if_neg (by rw [hb]; exact Bool.false_ne_true)]
      exact xp_e x_non
    · have e : W.mayMark W.home s.l.l = ((cfK W).mkh && (s.l.isE || (!(cfK W).lone || (cfK W).op))) := by
        unfold Wd.mayMark
        have : s.l.l.isE = s.l.isE := by cases s.l <;> rfl
        rw [this]
        rfl
      rw [e] at r
      exact r
  | look =>
    refine bn_b (XS.run ?_)
    refine s_if (t_is (t_eqS (x_ixT (x_var 1) x_int hsq rfl) x_str) (b' := false) (by decide)) (fun e => nomatch e) fun _ => s_then ?_
    refine s_if (t_is (t_eqS (x_ixT (x_var 1) x_int hsq rfl) x_str) (b' := false) (by decide)) (fun e => nomatch e) fun _ => s_then ?_
    refine s_if (t_is (t_eqS (x_ixT (x_var 1) x_int hsq rfl) x_str) (b' := true) (by decide)) (fun _ => ?_) (fun e => nomatch e)
    refine s_set 6 (x_meth (ok_with T (wc_K T) T.m_K_with_letter) hr (x_var 0) hW.hw (lnm (by decide)) (x_acons (x_var 5) (x_acons x_str x_anil)) (v_with (f := true) (l := s.l.l) (k := .x) hW)) ?_
    rw [more3]
    cases hm : (if !s.l.isE && W.B.chk "lone" then none else s.l.add) with
    | none =>
      refine s_retP (xp_ifE (b := true) (P := fun v _ => v = .non) (t_is (t_w (w_or (t_is (t_neS (x_var 4) x_str) (congrArg (!·) (y_marked s.y))) fun _ => w_or1 (t_is (t_isN (x_var 6) x_non) (b' := true) rfl))) (by cases s.y.isMarked <;> rfl)) (fun _ => xp_e x_non) (fun e => nomatch e)) fun v H1 e1 r => q v H1 N e1 (Nat.le_refl _) ?_
      have : outK (cfK W) .look s = none := by
        unfold outK
        have hm' : (if !s.l.isE && (cfK W).lone then none else s.l.add) = none := hm
        simp only [hm']
        split <;> rfl
      rw [this]
      exact r
    | some l2 =>
      refine s_retP (xp_ifE (b := !s.y.isMarked) (P := OutK (if !s.y.isMarked then none else some ({ s with l := l2 }, false))) (t_is (t_w (w_or (t_is (t_neS (x_var 4) x_str) (congrArg (!·) (y_marked s.y))) fun _ => w_or1 (t_is (t_isN (x_var 6) x_non) (b' := false) rfl))) (by cases s.y.isMarked <;> rfl)) (fun hb => ?_) fun hb => ?_) fun v H1 e1 r => q v H1 N e1 (Nat.le_refl _) ?_
      · rw [if_pos hb]
        exact xp_e x_non
      · rw [if_neg (by rw [hb]; exact Bool.false_ne_true)]
        exact xp_prG (tv := stK { s with l := l2 }) (xp_u (x_tup (x_acons (x_var 4) (x_acons (x_var 6) x_anil)))) x_str
      · have : outK (cfK W) .look s = (if !s.y.isMarked then none else some ({ s with l := l2 }, false)) := by
          unfold outK
          have hm' : (if !s.l.isE && (cfK W).lone then none else s.l.add) = some l2 := hm
          simp only [hm']
        rw [this]
        exact r
  | do_ =>
    refine bn_if (t_is (t_eqS (x_ixT (x_var 1) x_int (hl.sq) rfl) x_str) (b' := false) (by decide)) (fun e => nomatch e) fun _ H1 e1 => bn_nil ?_
    have hW := hW.mono e1
    have hl := hl.mono (Nat.le_refl _) e1
    have q := fun v H' N' (e : Ex H1 H') => q v H' N' (e1.trans e)
    refine bn_if (t_is (t_eqS (x_ixT (x_var 1) x_int (hl.sq) rfl) x_str) (b' := false) (by decide)) (fun e => nomatch e) fun _ H2 e2 => bn_nil ?_
    have hW := hW.mono e2
    have hl := hl.mono (Nat.le_refl _) e2
    have q := fun v H' N' (e : Ex H2 H') => q v H' N' (e2.trans e)
    refine bn_if (t_is (t_eqS (x_ixT (x_var 1) x_int (hl.sq) rfl) x_str) (b' := false) (by decide)) (fun e => nomatch e) fun _ H3 e3 => bn_nil ?_
    have hW := hW.mono e3
    have hl := hl.mono (Nat.le_refl _) e3
    have q := fun v H' N' (e : Ex H3 H') => q v H' N' (e3.trans e)
    refine bn_if (t_is (t_eqS (x_var 5) x_str) (l3_e s.l)) (fun hb H4 e4 => bn_b (XS.run (s_ret x_non fun H5 e5 => q _ H5 N (e4.trans e5) (Nat.le_refl _) ?_))) fun hb H4 e4 => bn_nil ?_
    · have : s.l = .e := by
        cases z : s.l with
        | e => rfl
        | x => rw [z] at hb; cases hb
        | xx => rw [z] at hb; cases hb
      unfold outK
      simp only [this]
      rfl
    obtain ⟨l', hl'⟩ : ∃ l', s.l.rem = some l' := by
      cases z : s.l with
      | e => rw [z] at hb; cases hb
      | x => exact ⟨_, rfl⟩
      | xx => exact ⟨_, rfl⟩
    have hW := hW.mono e4
    have hl := hl.mono (Nat.le_refl _) e4
    have q := fun v H' N' (e : Ex H4 H') => q v H' N' (e4.trans e)
    have one : 1 ≤ N := by
      obtain ⟨_, _, _, t, _, _, _, _, t0, tN⟩ := hl
      exact Nat.lt_of_le_of_lt (Nat.zero_le _) tN
    obtain ⟨lf, LR, lm, lk⟩ := ok_lack (P := P) (w := wd) (base := base) T
    refine bn_asg (g := gName 3) ?_ (pg_name (i := 3) nd rfl (.inl rfl))
    refine en_lack (b := true) (l := s.l.l) (l' := l'.l) (le := .x) LR lm lk hr (x_var 5) (raw_const one) (by rw [rem3, hl'] <;> rfl) fun H7 N7 e7 n7 => ?_
    have hW := hW.mono e7
    have hl := LkR.mono hl n7 e7
    have q := fun v H' N' (e : Ex H7 H') n => q v H' N' (e7.trans e) n
    have hsq7 := LkR.sq (K := K) hl
    refine bn_b (XS.run ?_)
    refine s_if (b := s.y.isMarked || (s.y.isPlain && !(cfK W).ag)) (t_is (t_w (w_and (t_is (t_eqS (x_ixT (x_var 1) x_int hsq7 rfl) x_str) (b' := true) (by decide)) fun _ => w_and1 (t_w (w_or (t_is (t_eqS (x_var 4) x_str) (y_marked s.y)) fun _ => w_or1 (t_w (w_and (t_is (t_eqS (x_var 4) x_str) (y_plain s.y)) fun _ => w_and1 (t_not (t_val (x_meth (ok_has T (wc_K T) T.m_K_has) hr (x_var 0) hW.hw (lnm (by decide)) (x_acons x_str (x_acons (x_fld (x_var 0) hW.hw T.cl_K T.nK_home hW.f2) x_anil)) (v_has hW (by decide) lh)))))))))) (by rw [Bool.true_and]; rfl)) (fun hb2 => ?_) fun hb2 => s_then ?_
    · refine s_retP (xp_prG (tv := stK ⟨.gone, l'⟩) (wt := uS s.y.isPlain) (xp_u (x_tup (x_acons x_str (x_acons (x_var 3) x_anil)))) (x_ifE (t_is (t_eqS (x_var 4) x_str) (y_plain s.y)) (fun h => by rw [h]; exact x_str) fun h => by rw [h]; exact x_str)) fun v H8 e8 r => q v H8 N7 e8 n7 ?_
      unfold outK
      simp only [hl', hb2, if_true]
      exact r
    · refine s_retP (xp_prG (tv := stK ⟨s.y, l'⟩) (wt := "") (xp_u (x_tup (x_acons (x_var 4) (x_acons (x_var 3) x_anil)))) x_str) fun v H8 e8 r => q v H8 N7 e8 n7 ?_
      unfold outK
      simp only [hl', hb2, Bool.false_eq_true, if_false]
      exact r
  | stop =>
    refine bn_if (t_is (t_eqS (x_ixT (x_var 1) x_int (hl.sq) rfl) x_str) (b' := false) (by decide)) (fun e => nomatch e) fun _ H1 e1 => bn_nil ?_
    have hW := hW.mono e1
    have hl := hl.mono (Nat.le_refl _) e1
    have q := fun v H' N' (e : Ex H1 H') => q v H' N' (e1.trans e)
    refine bn_if (t_is (t_eqS (x_ixT (x_var 1) x_int (hl.sq) rfl) x_str) (b' := false) (by decide)) (fun e => nomatch e) fun _ H2 e2 => bn_nil ?_
    have hW := hW.mono e2
    have hl := hl.mono (Nat.le_refl _) e2
    have q := fun v H' N' (e : Ex H2 H') => q v H' N' (e2.trans e)
    refine bn_if (t_is (t_eqS (x_ixT (x_var 1) x_int (hl.sq) rfl) x_str) (b' := false) (by decide)) (fun e => nomatch e) fun _ H3 e3 => bn_nil ?_
    have hW := hW.mono e3
    have hl := hl.mono (Nat.le_refl _) e3
    have q := fun v H' N' (e : Ex H3 H') => q v H' N' (e3.trans e)
    refine bn_if (t_is (t_eqS (x_var 5) x_str) (l3_e s.l)) (fun hb H4 e4 => bn_b (XS.run (s_ret x_non fun H5 e5 => q _ H5 N (e4.trans e5) (Nat.le_refl _) ?_))) fun hb H4 e4 => bn_nil ?_
    · have : s.l = .e := by
        cases z : s.l with
        | e => rfl
        | x => rw [z] at hb; cases hb
        | xx => rw [z] at hb; cases hb
      unfold outK
      simp only [this]
      rfl
    obtain ⟨l', hl'⟩ : ∃ l', s.l.rem = some l' := by
      cases z : s.l with
      | e => rw [z] at hb; cases hb
      | x => exact ⟨_, rfl⟩
      | xx => exact ⟨_, rfl⟩
    have hW := hW.mono e4
    have hl := hl.mono (Nat.le_refl _) e4
    have q := fun v H' N' (e : Ex H4 H') => q v H' N' (e4.trans e)
    have one : 1 ≤ N := by
      obtain ⟨_, _, _, t, _, _, _, _, t0, tN⟩ := hl
      exact Nat.lt_of_le_of_lt (Nat.zero_le _) tN
    obtain ⟨lf, LR, lm, lk⟩ := ok_lack (P := P) (w := wd) (base := base) T
    refine bn_asg (g := gName 3) ?_ (pg_name (i := 3) nd rfl (.inl rfl))
    refine en_lack (b := true) (l := s.l.l) (l' := l'.l) (le := .x) LR lm lk hr (x_var 5) (raw_const one) (by rw [rem3, hl'] <;> rfl) fun H7 N7 e7 n7 => ?_
    have hW := hW.mono e7
    have hl := LkR.mono hl n7 e7
    have q := fun v H' N' (e : Ex H7 H') n => q v H' N' (e7.trans e) n
    have hsq7 := LkR.sq (K := K) hl
    refine bn_b (XS.run ?_)
    refine s_if (b := false) (t_is (t_w (w_and (b' := false) (t_is (t_eqS (x_ixT (x_var 1) x_int hsq7 rfl) x_str) (b' := false) (by decide)) fun e => nomatch e)) rfl) (fun e => nomatch e) fun _ => s_then ?_
    refine s_retP (xp_prG (tv := stK ⟨s.y, l'⟩) (wt := "") (xp_u (x_tup (x_acons (x_var 4) (x_acons (x_var 3) x_anil)))) x_str) fun v H8 e8 r => q v H8 N7 e8 n7 ?_
    unfold outK
    simp only [hl']
    exact r
end
end Ls
/-! LsW9 -/
set_option Elab.async false
set_option linter.all false
set_option maxRecDepth 100000
namespace Ls
open PySem PySem.Spec PyProof.Rows L2 Lx Ln
open Evl (Ex Ex.refl Ex.trans Ex.mut Ex.new Ev EvT EvL EvU EvA ex_l ex_t ex_rd sq_of st_of sz_of sz_lt fresh_back)
open Lsm (X5 O3 Y4 L10 Le Wr Lb Qn Cf)
section
variable {P : Program} {wd : World} {K : PySem.W.Frag} {mg : Str → Option Value} {base : Heap}
def s0K : KS := ⟨.new, .e⟩
def spBeginK : Sp := fun vs H Q _ => ∃ (w : Addr), vs = [.ref w] ∧ ∀ p H', H p = none → Ex H H' → H' p = some (.tup (stK s0K)) → Q (.ref p) H'
theorem ok_beginK (T : Tf K mg) : C8.Met P wd K mg base 1 (cK K) "begin" spBeginK [] := by
  refine met_of (N := ["self"]) T.m_K_begin (by decide +kernel) (fun vs H Q E ⟨w, e, _⟩ => by rw [e]; rfl) fun f cdv A outer sh H vs Q E hr nd h => ?_
  obtain ⟨w, rfl, q⟩ := h
  exact b_retN' (xn_u (x_tup (x_acons x_str (x_acons x_str x_anil)))) q
theorem u_is (r : Bool) : decide (uS r = "undue") = r := by cases r <;> decide
def spFaultK : Sp := fun vs H Q _ => ∃ (w p : Addr) (r : Bool), vs = [.ref w, .str "undue", .ref p, .str (uS r)] ∧ ∀ H', Ex H H' → Q (.bl r) H'
theorem ok_faultK (T : Tf K mg) : C8.Met P wd K mg base 1 (cK K) "is_fault" spFaultK [] := by
  refine met_of (N := ["self", "word", "state", "wrong"]) T.m_K_is_fault (by decide +kernel) (fun vs H Q E ⟨w, p, r, e, _⟩ => by rw [e]; rfl) fun f cdv A outer sh H vs Q E hr nd h => ?_
  obtain ⟨w, p, r, rfl, q⟩ := h
  exact XS.run (s_ret (x_b (x_eqS (x_var 3) (x_var 1)) (u_is r)) q)
def LkP (N : Nat) (vs : List V) (ls : List LbK) (H : Hp) : Prop := Paired (fun v lb => LkR lb N v H) vs ls
theorem LkP.mono {N N' : Nat} {vs : List V} {ls : List LbK} {H H' : Hp} (h : LkP N vs ls H) (hn : N ≤ N') (e : Ex H H') : LkP N' vs ls H' := Paired.mapP h fun _ _ q => LkR.mono q hn e
def allLk : List LbK := [.put, .mark, .look, .do_, .stop]
def spLabsK (K : PySem.W.Frag) : SpN := fun vs H N Q => ∃ w W, vs = [.ref w] ∧ WAt K (cK K) H w W ∧ W.sorts = "X" ∧ ∀ l vs H' N', H l = none → Ex H H' → H' l = some (.lst vs) → LkP N' vs allLk H' → Q (.ref l) H' N'
theorem labs_k : labs "X" = [(("look" : Str), 88), ("do", 88), ("stop", 88)] := by decide +kernel
theorem x_ok : ("X" : Str).cps.all (· < 128) = true ∧ ("X" : Str).length ≤ 10 := ⟨by decide +kernel, by decide +kernel⟩
theorem ok_labelsK (T : Tf K mg) : MetT P wd K mg base 2 (cK K) "labels" (spLabsK K) := by
  refine metT_of (Ns := ["self"]) T.m_K_labels (by decide +kernel) (fun vs H N Q ⟨w, W, e, _⟩ => by rw [e]; rfl) fun f cdv A outer sh H N vs Q hr nd h => ?_
  obtain ⟨w, W, rfl, hW, es, q⟩ := h
  refine bn_ret (en_lst ?_)
  refine an_cons (en_xp (xp_u (xs := [.str "put", .str "x", .str "-"]) (x_tup (x_acons x_str (x_acons x_str (x_acons x_str x_anil))))) fun v5 H5 e5 t5 => ?_)
  refine an_cons (en_xp (xp_u (xs := [.str "mark", .str "x"]) (x_tup (x_acons x_str (x_acons x_str x_anil)))) fun v6 H6 e6 t6 => ?_)
  have hW6 := (hW.mono e5).mono e6
  refine an_star (en_meth0 (ok_list_labels T (wc_K T) T.m_K_list_labels) hr (x_var 0) hW6.hw (hW6.ln _ (by decide)) fun H8 e8 => ⟨w, W, rfl, hW6.mono e8, by rw [es]; exact x_ok.1, by rw [es]; exact x_ok.2, fun l8 vs8 H9 N9 l80 e9 hl9 lab9 => ⟨l8, vs8, rfl, .inr (sq_of hl9), an_nil ?_⟩⟩)
  rw [es, labs_k] at lab9
  obtain ⟨p5, rfl, h5⟩ := t5
  obtain ⟨p6, rfl, h6⟩ := t6
  have lab9 : Paired (fun v (q : Str × Nat) => LabC N9 q.1 (sgn1 q.2) v H9) vs8 [(("look" : Str), 88), ("do", 88), ("stop", 88)] := lab9
  have r9 : LkP N9 (.ref p5 :: .ref p6 :: (vs8 ++ [])) allLk H9 := by
    rw [List.append_nil]
    cases lab9 with
    | cons l1 lab9 =>
      cases lab9 with
      | cons l2 lab9 =>
        cases lab9 with
        | cons l3 lab9 =>
          cases lab9
          exact .cons (show TupR ["put", "x", "-"] _ _ from ⟨p5, rfl, ((e6.trans e8).trans e9) _ _ h5⟩) (.cons (show TupR ["mark", "x"] _ _ from ⟨p6, rfl, (e8.trans e9) _ _ h6⟩) (.cons l1 (.cons l2 (.cons l3 .nil))))
  refine ⟨?_, fun p2 hp2 => ?_⟩
  · rw [paired_len r9]
    show 5 ≤ 100000
    decide
  · have x2 : Ex H9 (upd H9 p2 (.lst (.ref p5 :: .ref p6 :: (vs8 ++ [])))) := Ex.new hp2
    have x9 : Ex H H9 := ((e5.trans e6).trans e8).trans e9
    exact q p2 _ _ N9 (fresh_back x9 hp2) (x9.trans x2) upd_same (r9.mono (Nat.le_refl _) x2)
/-! ### first_other -/
structure FoAt (K : PySem.W.Frag) (H : Hp) (w : Addr) (W : Wd) (c : Col) : Prop where
  wa : WAt K (cW K) H w W
  by_ : ∃ bc dc, W.fs.lookup ("by" : Str) = some (.ref bc) ∧ H bc = some (.ins (cC K) dc (colF c))
def othC (W : Wd) (c d : Col) : Bool := decide (d.home = W.home) && (d.fall && !decide (d.word = c.word)) && W.mks d.goal
def spFo (K : PySem.W.Frag) : Sp := fun vs H Q _ => ∃ w W c, vs = [.ref w] ∧ FoAt K H w W c ∧ ∀ v H', Ex H H' → (v = .non ∧ (∀ d ∈ W.B.cols, othC W c d = false) ∨ ∃ d ∈ W.B.cols, othC W c d = true ∧ ColAt K H' v d) → Q v H'
theorem ok_first (T : Tf K mg) : C8.Met P wd K mg base 1 (cW K) "first_other" (spFo K) [] := by
  refine met_of (N := ["self", "column"]) T.m_W_first_other (by decide +kernel) (fun vs H Q E ⟨w, W, c, e, _⟩ => by rw [e]; rfl) fun f cdv A outer sh H vs Q E hr nd h => ?_
  obtain ⟨w, W, c, rfl, ⟨wa, bc, dc, hby, hbc⟩, q⟩ := h
  have hB := wa.hB
  have wl := paired_len hB.hv
  have nw : w ≠ W.a.d3 := fun z => by have := wa.hw; rw [z, hB.hc] at this; cases this
  have nb : bc ≠ W.a.d3 := fun z => by rw [z, hB.hc] at hbc; cases hbc
  refine b_forV hB.hc (fun od => x_fld (x_fld (x_var 0) (by rw [upd_ne nw]; exact wa.hw) T.cl_W T.nW_law_book wa.f1) (hB.lock hB.hc).hb T.cl_B T.nB_column_table bkF_3) (pg_name (i := 1) nd rfl (.inl rfl)) (fun od i σ' H' => (∃ y, σ' = [some (.ref w), y]) ∧ Ex (upd H W.a.d3 (.frz od (.dK ((W.B.cols.zip W.a.vs).map fun p => (Sum.inr p.1.word, p.2))))) H' ∧ ∀ d ∈ W.B.cols.take i, othC W c d = false) (fun od H1 e1 => ⟨⟨_, rfl⟩, e1, fun d hd => by simp at hd⟩) (fun od i σ' H' r => r.2.1 _ _ upd_same) ?_ ?_
  · rintro od i k x σ' H' hk ⟨⟨y, rfl⟩, e3, hno⟩
    have hw : ∃ d, W.B.cols[i]? = some d ∧ W.a.vs[i]? = some x := by
      rw [List.getElem?_map] at hk
      obtain ⟨p, hp, e⟩ := Option.map_eq_some_iff.mp hk
      obtain ⟨h1, h2⟩ := List.getElem?_zip_eq_some.mp hp
      injection e with _ e2
      exact ⟨p.1, h1, e2 ▸ h2⟩
    obtain ⟨d, hd, hx⟩ := hw
    obtain ⟨d', hd', hcol⟩ := prd_at hB.hv hx
    rw [hd] at hd'
    cases hd'
    obtain ⟨p, dx, rfl, hp⟩ := col_lock (od := od) hB.hc hcol
    have hp := e3 _ _ hp
    have hwL : H' w = some (.ins (cW K) W.dx W.fs) := e3 _ _ (by rw [upd_ne nw]; exact wa.hw)
    have hbL : H' bc = some (.ins (cC K) dc (colF c)) := e3 _ _ (by rw [upd_ne nb]; exact hbc)
    have hmL : SqL K H' W.m (W.ms.map V.str) := ex_l e3 (l_lock hB.hc wa.hm)
    have tk : ∀ b, othC W c d = b → b = false → ∀ e ∈ W.B.cols.take (i + 1), othC W c e = false := fun b hb hf e he => by
      rw [List.take_add_one, hd] at he
      rcases List.mem_append.mp he with he | he
      · exact hno e he
      · have : e = d := by simpa using he
        rw [this, hb, hf]
    refine b_if (b := decide (d.home = W.home) && (d.fall && !decide (d.word = c.word))) (t_w (w_and (t_eqS (x_fld (x_var 1) hp T.cl_C T.nC_home (colF_home d)) (x_fld (x_var 0) hwL T.cl_W T.nW_home wa.f2)) fun _ => w_and (t_is (t_eqS (x_fld (x_var 1) hp T.cl_C T.nC_rule (colF_rule d)) (x_gl T.s_FALL)) (by cases d.fall <;> decide)) fun _ => w_and1 (t_neS (x_fld (x_var 1) hp T.cl_C T.nC_word (colF_word d)) (x_fld (x_fld (x_var 0) hwL T.cl_W T.nW_by hby) hbL T.cl_C T.nC_word (colF_word c))))) (fun hb H4 e4 => ?_) fun hb H4 e4 => b_nil (b_nil ⟨⟨_, rfl⟩, e3.trans e4, tk _ rfl (by unfold othC; rw [hb]; rfl)⟩)
    refine b_if (t_inS (x_fld (x_var 1) (e4 _ _ hp) T.cl_C T.nC_goal (colF_goal d)) (x_fld (x_var 0) (e4 _ _ hwL) T.cl_W T.nW_can_mark wa.f3) (ex_l e4 hmL)) (fun hb2 H5 e5 => ?_) fun hb2 H5 e5 => b_nil (b_nil (b_nil ⟨⟨_, rfl⟩, (e3.trans e4).trans e5, tk _ rfl (by unfold othC; rw [hb]; exact hb2)⟩))
    refine b_ret (x_var 1) fun H6 e6 => ⟨(((e3.trans e4).trans e5).trans e6) _ _ upd_same, ?_⟩
    have xu := ex_unlock (H := H) hB.hc (((e3.trans e4).trans e5).trans e6)
    refine q _ _ xu (.inr ⟨d, List.mem_of_getElem? hd, by unfold othC; rw [hb]; exact hb2, p, dx, rfl, ?_⟩)
    rw [upd_ne (fun z => by rw [z, e3 _ _ upd_same] at hp; cases hp)]
    exact ((e4.trans e5).trans e6) _ _ hp
  · rintro od σ' H' ⟨⟨y, rfl⟩, e3, hno⟩
    have e4 : ((W.B.cols.zip W.a.vs).map fun p => ((Sum.inr p.1.word : Key), p.2)).length = W.B.cols.length := by rw [List.length_map, List.length_zip, wl, Nat.min_self]
    rw [e4, List.take_length] at hno
    exact b_ret x_non fun H6 e6 => q _ _ ((ex_unlock (H := H) hB.hc e3).trans e6) (.inl ⟨rfl, hno⟩)
end
end Ls
/-! LsS -/
set_option Elab.async false
set_option linter.all false
set_option maxRecDepth 100000
namespace Lsu
open PySem PySem.Spec PyProof.Rows L2 Lx
open Evl (Ex Ex.refl Ex.trans Ex.mut Ex.new Ev EvT EvL EvU EvA ex_l ex_t ex_rd sq_of st_of sz_of sz_lt fresh_back)
theorem lookup_mem {l : List (Str × Value)} {k : Str} {v : Value} (nd : (l.map (·.1)).Nodup) (h : (k, v) ∈ l) : l.lookup k = some v := by
  induction l with
  | nil => cases h
  | cons q l ih =>
    obtain ⟨a, b⟩ := q
    rw [List.map_cons, List.nodup_cons] at nd
    rw [List.lookup_cons]
    rcases List.mem_cons.mp h with h | h
    · cases h
      simp
    · have : (k == a) = false := by
        cases z : k == a with
        | false => rfl
        | true => exact absurd (List.mem_map.mpr ⟨_, h, eq_of_beq z⟩) nd.1
      rw [this]
      exact ih nd.2 h
/-- the context of a method that names its class -/
def cxS (P : Program) (w : World) (K : PySem.W.Frag) (mg : Str → Option Value) (base : Heap) (Ns : List Str) (qual : Str) (scope : Scope) (f cda cc : Addr) (A : Around) (outer : List Env) (s : Shared) (H : Hp) : Cx where
  prog := P
  w := w
  K := K
  mg := mg
  base := base
  A := A.deeper (PySem.W.ksEnv qual scope s.heap.objs.size f (.ref cda) cc)
  N := Ns
  s_0 := s
  H_0 := H
  env := PySem.W.ksEnv qual scope s.heap.objs.size f (.ref cda) cc
  outer := outer
  stack := PySem.W.ksEnv qual scope s.heap.objs.size f (.ref cda) cc :: outer
  ex := []
  calm := true
  fn := fun x => !(x == ("__class__" : Str))
  pn := []
  xe := fun _ _ => False
section
variable {P : Program} {w : World} {K : PySem.W.Frag} {mg : Str → Option Value} {base : Heap} {Ns ps : List Str} {qual : Str} {scope : Scope} {f cda cc : Addr} {A : Around} {outer : List Env} {s : Shared} {H : Hp} {us : List Value} {vs : List V}
theorem inv_startS (hk : scope.kind = .function) (nd : Ns.Nodup) (pre : Ns.take ps.length = ps) (par : ∀ x ∈ ps, scope.names.lookup x = some .local) (cells : ∀ y, scope.names.lookup y = some .cell ∨ scope.names.lookup y = some .free → y = "__class__") (hd : A.handled = none) (e0 : Env0 P w K mg base A outer s H) (hc : ∃ o v, base.get? cc = some o ∧ o.data = .cell v) (hl : vs.length = ps.length) (r : Vals vs us) {h1 : Heap} {n : Nat}
    (ns : h1.Ns s.heap.objs.size (fun x => (ps.zip us).reverse.lookup x)) (kp : ∀ b o, s.heap.get? b = some o → h1.get? b = some o) : Inv (cxS P w K mg base Ns qual scope f cda cc A outer s H) [] (L2.start Ns vs) H { s with heap := h1, toks := n } := by
  obtain ⟨oc, vc, hbc, hdc⟩ := hc
  have hsc := (e0.bs cc oc hbc).1
  have hcn := (e0.bs cc oc hbc).2
  have cl : ∀ {y c}, (PySem.W.ksEnv qual scope s.heap.objs.size f (.ref cda) cc).cells.lookup y = some c → y = "__class__" ∧ c = cc := fun {y c} h => by
    have h : ([("__class__", cc)] : List (Str × Addr)).lookup y = some c := h
    rw [List.lookup_cons] at h
    split at h
    · next e => exact ⟨eq_of_beq e, (Option.some.inj h).symm⟩
    · cases h
  have noA : ∀ b : Addr, b ∉ (cxS P w K mg base Ns qual scope f cda cc A outer s H).ex := fun b z => absurd (show b ∈ ([] : List Addr) from z) (by simp)
  have pl : ps.length ≤ Ns.length := by
    have := congrArg List.length pre
    rw [List.length_take] at this
    omega
  have pnd : ps.Nodup := by
    rw [← pre]
    exact nd.sublist (List.take_sublist _ _)
  refine ⟨⟨e0.mod, hk, rfl, rfl, Nat.le_refl _, fun y z c h1 h2 => (cl h1).1.trans (cl h2).1.symm, fun y hy => ?_, fun y c hf h => ?_, fun _ => hd, Around.frames_deeper e0.frames, .inr ⟨rfl, rfl⟩, fun b z => absurd z (noA b), e0.bs, e0.bsz, fun b _ _ => noA b, fun b z => absurd z (noA b), e0.funs, e0.frf⟩,
    rfl, e0.bare, Un.kept kp, ⟨_, ns, fun i y v e1 e2 e3 => ?_⟩, fun y c h => ⟨vc, ?_⟩, e0.hok.fresh (Nat.le_refl _), fun y c h => ?_, fun p hp => absurd (show p ∈ ([] : List (Addr × Obj)) from hp) (by simp), e0.hok.kept kp, ?_⟩
  · have : y = "__class__" := cells y hy
    subst this
    exact ⟨cc, rfl⟩
  · have := (cl h).1
    subst this
    exact absurd (show (!(("__class__" : Str) == ("__class__" : Str))) = true from hf) (by decide)
  · have hi : i < vs.length := by
      unfold L2.start at e2
      by_cases hi : i < vs.length
      · exact hi
      · rw [List.getElem?_append_right (by simpa using hi), List.getElem?_replicate] at e2
        split at e2 <;> cases e2
    have hv : vs[i]? = some v := by
      unfold L2.start at e2
      rw [List.getElem?_append_left (by simpa using hi), List.getElem?_map] at e2
      cases e : vs[i]? with
      | none => rw [e] at e2; cases e2
      | some a => rw [e] at e2; cases e2; rfl
    obtain ⟨u, hu, ru⟩ := r.get hv
    have hp : ps[i]? = some y := by
      rw [← pre, List.getElem?_take_of_lt (by omega)]
      exact e1
    refine ⟨u, ru, .inl ⟨par y (List.mem_of_getElem? hp), ?_⟩⟩
    refine lookup_mem (l := (ps.zip us).reverse) ?_ ?_
    · have e : ((ps.zip us).reverse.map (·.1)) = ps.reverse := by
        rw [List.map_reverse, ← List.unzip_fst, List.unzip_zip (by rw [← r.length]; exact hl.symm)]
      rw [e]
      exact List.pairwise_reverse.mpr (pnd.imp fun h => Ne.symm h)
    · rw [List.mem_reverse]
      exact List.mem_of_getElem? (i := i) (List.getElem?_zip_eq_some.mpr ⟨hp, hu⟩)
  · obtain ⟨rfl, rfl⟩ := cl h
    exact ⟨oc, kp _ _ hsc, hdc⟩
  · obtain ⟨_, rfl⟩ := cl h
    exact hcn
  · unfold L2.start
    show _ = Ns.length
    rw [List.length_append, List.length_map, List.length_replicate]
    omega
end
/-- what super() in a method of the class at C asks of the module: f the method, f2 the one above, cc the cell, cda the code -/
structure SupF (P : Program) (K : PySem.W.Frag) (C f f2 cc cda : Addr) (m qual : Str) (st : Stmt) (ps : List Str) : Prop where
  ex : ∃ (oc ccl cl : Value) (od cdd cld : Option Addr) (dV kV doc pm ct : Value) (an : Option Addr) (osl ccs csl : Array (Option Value)) (vs : Array Value) (tf : Tok) (cd : ClassData) (ar : Arg),
    K.lookup f = some ⟨oc, od, .func (PySem.W.ksFn m qual (C8.fnArgs st) (C8.fnBody st) (C8.fnScope st) dV kV doc pm an (.ref cda) ct cc), osl⟩ ∧ PySem.W.codeIn K (.ref cda) qual = true ∧
    K.lookup cda = some ⟨ccl, cdd, .fields vs, ccs⟩ ∧ vs[2]? = some (.str P.main.file tf) ∧ K.lookup cc = some ⟨cl, cld, .cell (some (.ref C)), csl⟩ ∧ PySem.W.clsIn K C = some cd ∧
    ((C8.fnArgs st).posonlyargs ++ (C8.fnArgs st).args).head? = some ar ∧ ps.head? = some ar.arg ∧ (∀ us : List Value, us.length = ps.length → bindArgs (PySem.W.ksFn m qual (C8.fnArgs st) (C8.fnBody st) (C8.fnScope st) dV kV doc pm an (.ref cda) ct cc) ⟨us, []⟩ = pure (ps.zip us))
  sub : PySem.W.mroIn K C (.ref C) = some true
  opq : PySem.W.nsIn K cStatics "thirdparty.any" = some none
  sup : PySem.W.ks_superIn K C C m = some (some (.ref f2))
  ty : PySem.W.typeIn K (.ref f2) = some (.type "function")
  fn2 : PySem.W.fnIn K f2 = true
  htop : (P.main.scope.names.lookup ("super" : Str)).isSome = false
section
variable {P : Program} {w : World} {K : PySem.W.Frag} {mg : Str → Option Value} {base : Heap} {Ns ps : List Str} {qual m : Str} {f f2 cda cc C : Addr} {A : Around} {outer : List Env} {s0 s : Shared} {H0 H : Hp} {st : Stmt}
theorem boot_super : bootBuiltins "super" = some (.type "super") := by decide +kernel
/-- super().m(args): f2 is called of self -/
theorem at_super {pins : List (Addr × Obj)} {σ : L2.St} {x dx : Addr} {fs : List (Str × V)} {a : Expr} {es : List Expr} {vs : List V} {p0 p1 p2 p3 pos : Pos} {pl : Sem Bool} {k j : Nat} {fd2 : FuncData} {ps2 : List Str} {sp : Sp} {R : Hp → Prop} {Q : Flow → Shared → Prop} {E : Value → Shared → Prop} {sx : Str}
    (F : SupF P K C f f2 cc cda m qual st ps) (hk : (C8.fnScope st).kind = .function) (hmg : mg "super" = none) (hks : (C8.fnScope st).names.lookup ("super" : Str) = some .globalImplicit) (hkc : (C8.fnScope st).names.lookup ("__class__" : Str) = some .free)
    (I : Inv (cxS P w K mg base Ns qual (C8.fnScope st) f cda cc A outer s0 H0) pins σ H s) (hx : H x = some (.ins C dx fs)) (hpx : ps.head? = some sx) (hNx : Ns[0]? = some sx) (lx : (C8.fnScope st).names.lookup sx = some .local) (hσ : σ[0]? = some (some (.ref x))) (mne : (m == ("__class__" : Str)) = false)
    (F2 : FnOk P w K mg base C8.CX0 k f2 fd2 ps2 sp) (b2 : Binds K fd2 ps2 []) (hr : Room j (cxS P w K mg base Ns qual (C8.fnScope st) f cda cc A outer s0 H0).A) (hkj : k ≤ j)
    (ha : XA (cxS P w K mg base Ns qual (C8.fnScope st) f cda cc A outer s0 H0) (a :: es) σ H vs) (hs : ∀ H1, Ex H H1 → sp (.ref x :: vs) H1 (fun _ H2 => R H2) C8.E0) (q : ∀ s' H', Inv (cxS P w K mg base Ns qual (C8.fnScope st) f cda cc A outer s0 H0) pins σ H' s' → R H' → Q .next s')
    (he : eval (.Call (.Attribute (.Call (.Name "super" p0) [] [] p1) m p2) (a :: es) [] p3) (cxS P w K mg base Ns qual (C8.fnScope st) f cda cc A outer s0 H0).env = (do
      let ov ← attributeBase (.Call (.Name "super" p0) [] [] p1) m (cxS P w K mg base Ns qual (C8.fnScope st) f cda cc A outer s0 H0).env (eval (.Call (.Name "super" p0) [] [] p1) (cxS P w K mg base Ns qual (C8.fnScope st) f cda cc A outer s0 H0).env); standAt p2.atName
      let (fx, first) ← holding [ov] (getMethod ov m pl); callWith p3 fx first (backTo p3 (starEach (a :: es) (cxS P w K mg base Ns qual (C8.fnScope st) f cda cc A outer s0 H0).env)) []) := by rfl)
    (hse : starEach (a :: es) (cxS P w K mg base Ns qual (C8.fnScope st) f cda cc A outer s0 H0).env = (false, eval a (cxS P w K mg base Ns qual (C8.fnScope st) f cda cc A outer s0 H0).env) :: starEach es (cxS P w K mg base Ns qual (C8.fnScope st) f cda cc A outer s0 H0).env := by rfl) (hpl : (backTo p3 (starEach es (cxS P w K mg base Ns qual (C8.fnScope st) f cda cc A outer s0 H0).env)).any (·.1) = false := by rfl)
    (hin : interactive (cxS P w K mg base Ns qual (C8.fnScope st) f cda cc A outer s0 H0).env = false := by rfl) (hsw : swapsWith (.Call (.Attribute (.Call (.Name "super" p0) [] [] p1) m p2) (a :: es) [] p3) none pos.line (cxS P w K mg base Ns qual (C8.fnScope st) f cda cc A outer s0 H0).env = pure false := by rfl) :
    _root_.PySem.wpAt (model P w) (cxS P w K mg base Ns qual (C8.fnScope st) f cda cc A outer s0 H0).A (.func (C8.fnBody st) (cxS P w K mg base Ns qual (C8.fnScope st) f cda cc A outer s0 H0).env) (exec (.Expr (.Call (.Attribute (.Call (.Name "super" p0) [] [] p1) m p2) (a :: es) [] p3) pos) (cxS P w K mg base Ns qual (C8.fnScope st) f cda cc A outer s0 H0).env) Q E s := by
  obtain ⟨oc, ccl, cl, od, cdd, cld, dV, kV, doc, pm, ct, an, osl, ccs, csl, cvs, tf, cd, ar, lk, hcd, lcode, hvs, lcell, hcls, har, harp, hb⟩ := F.ex
  obtain ⟨hh, g, d, t, os⟩ := s
  have KX : K.In hh := I.kIn
  obtain ⟨mA, O, _⟩ := ins_get I.hok hx
  obtain ⟨odx, J, _⟩ := O.look
  obtain ⟨oD, hD1, hD2⟩ : ∃ oD, hh.get? C = some oD ∧ oD.data = .cls cd := by
    unfold PySem.W.clsIn at hcls
    split at hcls
    · next c d cd' sl ho =>
      cases hcls
      exact ⟨_, KX _ _ ho, rfl⟩
    · cases hcls
  have esx : ar.arg = sx := Option.some.inj (harp.symm.trans hpx)
  refine ks_wpAt_Expr_any (ks_wpAt_MethodCall (pl := pl) (ks_wpAt_super_base hks hkc mne rfl (KX _ _ lk) rfl har rfl (KX _ _ lcode) rfl hvs (beq_self_eq_true _) F.htop ?_) he) hin hsw
  obtain ⟨mb, b1, b22⟩ := I.mod.blt
  refine PySem.W.ks_loadName_global hk hks (Calls.loadGlobal_builtin (by rw [I.ok.glob]; exact I.mod.glob.keeps I.bk) hmg (by rw [I.ok.blt]; exact b1.keeps I.bk) ((b22 "super" (by decide)).trans boot_super) ⟨rfl, ?_⟩)
  refine wpAny_loadName_free hk hkc rfl ⟨_, KX _ _ lcell, rfl⟩ ?_
  obtain ⟨mm, hn, hl⟩ := I.loc
  obtain ⟨u, ru, look⟩ := hl 0 sx (.ref x) hNx hσ (.inl lx)
  have hu : u = .ref x := ru
  subst hu
  have hm0 : mm sx = some (.ref x) := by
    rcases look with ⟨_, e⟩ | ⟨e, _⟩
    · exact e
    · rcases e with e | e
      · have e : (C8.fnScope st).names.lookup sx = some .cell := e
        rw [lx] at e
        cases e
      · have e : (C8.fnScope st).names.lookup sx = some .free := e
        rw [lx] at e
        cases e
  rw [esx]
  refine wpAny_loadName_local hk lx hn hm0 ?_
  refine ks_wpAny_isType_cls hD1 hD2 ⟨rfl, ?_⟩
  refine ks_wpAny_call_super hD1 hD2 J.at_ J.cls (fun c e => ?_) (PySem.W.looks_mroIn KX F.sub) (fun h1 e1 k1 => ?_)
  · have := J.no
    unfold PySem.W.notCls at this
    rw [e] at this
    exact Bool.noConfusion this
  have I1 : Inv (cxS P w K mg base Ns qual (C8.fnScope st) f cda cc A outer s0 H0) pins σ H ⟨h1, g, d, t, os⟩ := I.kept (t' := t) (h' := h1) k1
  have KX1 : K.In h1 := I1.kIn
  obtain ⟨mA1, O1, _⟩ := ins_get I1.hok hx
  obtain ⟨odx1, J1, _⟩ := O1.look
  have hm := F.sup
  unfold PySem.W.ks_superIn at hm
  rw [hcls] at hm
  obtain ⟨of, hof, hofc⟩ : ∃ of, h1.get? f2 = some of ∧ of.cls = .type "function" := by
    have ht : (K.lookup f2).map (·.cls) = some (.type "function") := F.ty
    cases z : K.lookup f2 with
    | none => rw [z] at ht; cases ht
    | some of => rw [z] at ht; exact ⟨of, KX1 _ _ z, Option.some.inj ht⟩
  refine ks_wpAny_getMethod_super e1 (PySem.W.looks_opaque KX1 F.opq) (l₀ := cd.mro) (fun A Q E s k q => wpAny_bind ((PySem.W.looks_clsIn KX1 hcls) A _ E s k (wpAny_pure q))) rfl KX1 hm hof hofc (PySem.W.ks_ne KX1 J1 hcls) mne ?_
  have q0 : H h1.objs.size = none := I1.hok.fresh (Nat.le_refl _)
  have I2 : Inv (cxS P w K mg base Ns qual (C8.fnScope st) f cda cc A outer s0 H0) pins σ (upd H h1.objs.size (.met f2 x)) ⟨h1.push { cls := .type "method", data := .fields #[.ref f2, .ref x] }, g, d, t + 1, os⟩ :=
    I1.laid (t' := t + 1) (a := h1.objs.size) (o := .met f2 x) (fun b u z => Heap.get?_push_of_some _ z) (Nat.le_refl _) (Heap.get?_push_size _ rfl)
  have x2 : Ex H (upd H h1.objs.size (.met f2 x)) := Ex.new q0
  have hq2 : (upd H h1.objs.size (.met f2 x)) h1.objs.size = some (.met f2 x) := upd_same
  generalize upd H h1.objs.size (.met f2 x) = H2 at I2 x2 hq2
  generalize h1.objs.size = qa at hq2 ⊢
  rw [hse]
  refine callwith_met (X := cxS P w K mg base Ns qual (C8.fnScope st) f cda cc A outer s0 H0) (g := f2) (a := x) (by show ((false || (backTo p3 _).any (·.1)) || false) = false; rw [hpl]; rfl) F.fn2 (Calls.evalArgs_plain ?_)
  have ha' := ha H2 x2 (fun vs' H3 => vs' = vs ∧ Ex H2 H3) (fun H3 e3 => ⟨rfl, e3⟩) p3 pins _ I2
  rw [hse] at ha'
  refine wpAny_mono ha' (fun us s3 z => ?_) fun _ _ z => False.elim z
  obtain ⟨vs3, H3, I3, r3, ev, e3⟩ := z
  refine ⟨met_P I3 (e3 _ _ hq2), ?_⟩
  subst ev
  have rel : Vals (.ref x :: vs3) (.ref x :: us) := .cons rfl r3
  have hsp := hs H3 (x2.trans e3)
  have hl2 : (Value.ref x :: us ++ []).length = ps2.length := by rw [List.append_nil, ← rel.length]; exact F2.len _ _ _ _ hsp
  have bt := b2 s3 (.ref x :: us) I3.kIn hl2
  rw [List.append_nil] at bt
  refine wpAny_call (call_met I3 (e3 _ _ hq2) (codeAny_mono (F2.run _ (cxS P w K mg base Ns qual (C8.fnScope st) f cda cc A outer s0 H0).stack s3 H3 ⟨.ref x :: us, []⟩ (.ref x :: us) _ _ C8.E0 (hr.mono hkj) I3.env0 bt rel hsp) fun r s4 z => ?_))
  cases r with
  | error e => exact False.elim z
  | ok fl =>
    cases fl with
    | ret u =>
      obtain ⟨v, H4, I4, _, q4⟩ := I3.after z
      exact q s4 H4 I4 q4
    | _ => exact False.elim z
end
end Lsu
/-! LsS2 -/
set_option Elab.async false
set_option linter.all false
set_option maxRecDepth 100000
namespace Ls
open PySem PySem.Spec PyProof.Rows L2 Lx Ln Lsu
open Evl (Ex Ex.refl Ex.trans Ex.mut Ex.new Ev EvT EvL EvU EvA ex_l ex_t ex_rd sq_of st_of sz_of sz_lt fresh_back)
open Lsm (X5 O3 Y4 L10 Le Wr Lb Qn Cf)
theorem sq_ins {K : PySem.W.Frag} {H : Hp} {x C dx a : Addr} {fs : List (Str × V)} {o : HO} {xs : List V} (hx : H x = some (.ins C dx fs)) (h : SqL K H a xs) : SqL K (upd H x o) a xs := by
  rcases h with (h | ⟨u, h⟩) | h
  · exact .inl (.inl (by rw [upd_ne (fun z => by subst z; rw [hx] at h; cases h)]; exact h))
  · exact .inl (.inr ⟨u, by rw [upd_ne (fun z => by subst z; rw [hx] at h; cases h)]; exact h⟩)
  · exact .inr h
theorem ln_of {fs : List (Str × V)} (h : ∀ m ∈ mNames, m ∉ fs.map (·.1)) : ∀ m ∈ mNames, fs.lookup m = none := fun m hm => by
  have := h m hm
  induction fs with
  | nil => rfl
  | cons p fs ih =>
    obtain ⟨a, b⟩ := p
    rw [List.map_cons, List.mem_cons, not_or] at this
    rw [List.lookup_cons]
    have e : (m == a) = false := by
      cases z : m == a with
      | false => rfl
      | true => exact absurd (eq_of_beq z) this.1
    rw [e]
    exact ih (fun m hm2 hc => h m hm2 (List.mem_cons_of_mem _ hc)) this.2
theorem ln_kw (b m : Addr) (home sorts : Str) : ∀ n ∈ mNames, (kwF b m home sorts).lookup n = none := ln_of (show ∀ m ∈ mNames, m ∉ (["law_book", "home", "can_mark", "sorts"] : List Str) by decide)
theorem ln_fo (b m c : Addr) (home goal sorts : Str) : ∀ n ∈ mNames, ([("law_book", .ref b), ("home", .str home), ("can_mark", .ref m), ("sorts", .str sorts), ("by", .ref c), ("goal", .str goal)] : List (Str × V)).lookup n = none := ln_of (show ∀ m ∈ mNames, m ∉ (["law_book", "home", "can_mark", "sorts", "by", "goal"] : List Str) by decide)
theorem ln_cw (b m c : Addr) (home goal sorts : Str) (o : V) : ∀ n ∈ mNames, (cwF b m c home goal sorts o).lookup n = none := ln_of (show ∀ m ∈ mNames, m ∉ (["law_book", "home", "can_mark", "sorts", "by", "goal", "other_column"] : List Str) by decide)
section
variable {P : Program} {wd : World} {K : PySem.W.Frag} {mg : Str → Option Value} {base : Heap} {C : Addr}
/-! ### Watch.__init__ -/
def spWI (K : PySem.W.Frag) (C : Addr) : Sp := fun vs H Q _ => ∃ x dx b a B home H0, vs = [.ref x, .ref b, .str home] ∧ H0 x = none ∧ Ex H0 H ∧ H x = some (.ins C dx []) ∧ BkAt K H0 b a B ∧ BkOk B ∧
  ∀ (m : Addr) (ms : List Str) H', Ex H0 H' → H' x = some (.ins C dx (kwF b m home "X")) → SqL K H' m (ms.map V.str) → (∀ k, k ∈ ms ↔ Mkb B k) → Q .non H'
theorem winit_body (T : Tf K mg) (hC : WC K C) {f : Addr} {cdv : Value} {A : Around} {outer : List Env} {s : Shared} {H : Hp} {vs : List V} {Q : VK} {E : XK} (hr : Room 2 (A.deeper (envOfC "Watch.__init__" (C8.fnScope (meth 53 0)) s.heap.objs.size f cdv))) (nd : (["self", "book", "home"] : List Str).Nodup) (h : spWI K C vs H Q E) :
    bT (cxOf C8.CX0 P wd K mg base ["self", "book", "home"] "Watch.__init__" (C8.fnScope (meth 53 0)) f cdv A outer s H E).nox (C8.fnBody (meth 53 0)) { nx := fun _ H' => Q .non H', rt := Q } (start ["self", "book", "home"] vs) H := by
  obtain ⟨x, dx, b, a, B, home, H0, rfl, x0, e0, hx, hB, O, q⟩ := h
  refine b_fldE (x_var 1) (x_var 0) hx hC.cl hC.n1 (by exact Nat.le_of_ble_eq_true rfl) fun H1 e1 => ?_
  have E1 := Ex.mut (p := x) (o := .ins C dx (putF "law_book" (.ref b) [])) (e0.trans e1) x0
  refine b_fldE (x_var 2) (x_var 0) upd_same hC.cl hC.n2 (by exact Nat.le_of_ble_eq_true rfl) fun H2 e2 => ?_
  have E2 := Ex.mut (p := x) (o := .ins C dx (putF "home" (.str home) (putF "law_book" (.ref b) []))) (E1.trans e2) x0
  have hB2 := hB.mono E2
  refine b_fldN (xn_meth0 (R := fun p H' => ∃ ms : List Str, H' p = some (.lst (ms.map V.str)) ∧ ∀ k, k ∈ ms ↔ Mkb B k) (ok_markable T) hr (x_var 1) hB2.hb (by rfl) fun H3 e3 Q q => ⟨b, a, B, rfl, hB2.mono e3, O, fun p H' xs hp e h1 h2 => q p H' hp e ⟨xs, h1, h2⟩⟩) (x_var 0) upd_same hC.cl hC.n3 (by exact Nat.le_of_ble_eq_true rfl) (fun m H3 m0 e3 ⟨ms, hm, hmk⟩ => ?_) fun p H1 H2 e ⟨ms, h1, h2⟩ => ⟨ms, e _ _ h1, h2⟩
  have mx : m ≠ x := fun z => by rw [z, upd_same] at m0; cases m0
  have E3 := Ex.mut (p := x) (o := .ins C dx (putF "can_mark" (.ref m) (putF "home" (.str home) (putF "law_book" (.ref b) [])))) (E2.trans e3) x0
  refine b_fldE x_str (x_var 0) upd_same hC.cl hC.n4 (by exact Nat.le_of_ble_eq_true rfl) fun H4 e4 => b_nil ?_
  have E4 := Ex.mut (p := x) (o := .ins C dx (kwF b m home "X")) (E3.trans e4) x0
  refine q m ms _ E4 upd_same (sq_of ?_) hmk
  rw [upd_ne mx]
  exact e4 _ _ (by rw [upd_ne mx]; exact hm)
theorem ok_kwatch (T : Tf K mg) : C8.Mak P wd K mg base 3 "KindWatch" (cK K) (spWI K (cK K)) [] := by
  refine mak_of (N := ["self", "book", "home"]) T.g_K T.k_K T.m_K_init (by decide +kernel) (fun vs H Q E ⟨x, dx, b, a, B, home, H0, e, _⟩ => by rw [e]; rfl) fun f cdv A outer s H vs Q E hr nd h => ?_
  exact winit_body T (wc_K T) hr nd h
theorem m_kwatch {H : Hp} {b : Addr} {a : BkA} {B : Bk} {home : Str} (h : BkAt K H b a B) (O : BkOk B) (hh : home ∈ B.kN) : PM (cK K) (spWI K (cK K)) [.ref b, .str home] H (fun p H2 => ∃ W, WAt K (cK K) H2 p W ∧ W.B = B ∧ W.home = home ∧ W.sorts = "X") := fun H1 e x dx hx hd n Q q =>
  ⟨x, dx, b, a, B, home, H1, rfl, hx, fun u o hu => by
    have n1 : u ≠ x := fun z => by rw [z, hx] at hu; cases hu
    have n2 : u ≠ dx := fun z => by rw [z, hd] at hu; cases hu
    rw [upd_ne n1, upd_ne n2]
    exact hu, upd_same, h.mono e, O, fun m ms H' e' h1 h2 h3 => q H' e' ⟨⟨dx, b, m, a, B, ms, home, "X", kwF b m home "X"⟩, ⟨h1, rfl, rfl, rfl, rfl, ln_kw b m home "X", (h.mono e).mono e', O, h2, h3, hh⟩, rfl, rfl, rfl⟩⟩
theorem ok_winit (T : Tf K mg) (hC : WC K C) {f : Addr} {fd : FuncData} (F : C8.Fun K "__init__" "Watch.__init__" (meth 53 0) f fd) : FnOk P wd K mg base C8.CX0 3 f fd ["self", "book", "home"] (spWI K C) :=
  C8.fn0 (N := ["self", "book", "home"]) F (C8.fnScope_by (by decide +kernel)) (fun vs H Q E ⟨x, dx, b, a, B, home, H0, e, _⟩ => by rw [e]; rfl) fun cdv A outer s H vs Q E hr h => ⟨_, pbT, winit_body T hC hr (by decide) h⟩
/-! ### ColumnWatch.__init__ -/
theorem cells_of {sc : Scope} (h : (sc.names.all fun p => (!decide (p.2 = .cell) && !decide (p.2 = .free)) || p.1 == ("__class__" : Str)) = true) : ∀ y, sc.names.lookup y = some .cell ∨ sc.names.lookup y = some .free → y = "__class__" := fun y hy => by
  have go : ∀ k, sc.names.lookup y = some k → (k = .cell ∨ k = .free) → y = "__class__" := fun k e hk => by
    have := List.all_eq_true.mp h _ (PySem.mem_of_lookup e)
    rcases hk with rfl | rfl <;> simpa using this
  exact hy.elim (fun e => go _ e (.inl rfl)) fun e => go _ e (.inr rfl)
structure SupW (P : Program) (K : PySem.W.Frag) (f : Addr) : Prop where
  ex : ∃ f2 fd2 cc cda, SupF P K (cW K) f f2 cc cda "__init__" "ColumnWatch.__init__" (meth 55 0) ["self", "book", "column"] ∧ C8.Fun K "__init__" "Watch.__init__" (meth 53 0) f2 fd2 ∧ Binds K fd2 ["self", "book", "home"] []
def spCWI (K : PySem.W.Frag) : Sp := fun vs H Q _ => ∃ x dx b a B c cp dc H0, vs = [.ref x, .ref b, .ref cp] ∧ H0 x = none ∧ Ex H0 H ∧ H x = some (.ins (cW K) dx []) ∧ BkAt K H0 b a B ∧ BkOk B ∧ H0 cp = some (.ins (cC K) dc (colF c)) ∧ c ∈ B.cols ∧
  ∀ W xx H', Ex H0 H' → CwAt K H' x W xx → W.B = B → xx.c = c → (xx.oc.isSome = true ↔ ∃ d ∈ B.cols, othC W c d = true) → Q .non H'
set_option maxHeartbeats 1000000 in
theorem ok_cwinit (T : Tf K mg) {f : Addr} (S : SupW P K f) : FnR P wd K mg base C8.CX0 4 f (spCWI K) := by
  obtain ⟨f2, fd2, cc, cda, F, F2, b2⟩ := S.ex
  obtain ⟨oc, ccl, cl, od, cdd, cld, dV, kV, doc, pm, ct, an, osl, ccs, csl, cvs, tf, cd, ar, lk, hcd, lcode, hvs, lcell, hcls, har, harp, hb⟩ := F.ex
  intro A outer s H us vs Q E hr e0 rel hsp
  obtain ⟨x, dx, b, a, B, c, cp, dc, H0, rfl, x0, eH, hx, hB, O, hcp, mc, q⟩ := hsp
  have KX : K.In s.heap := e0.mod.kin.keeps fun b o e => (e0.bs b o e).1
  have lim : s.heap.NoLimit := e0.mod.nolimit.keeps fun b o e => (e0.bs b o e).1
  have hl : us.length = 3 := by rw [← rel.length]; rfl
  refine PySem.ks_codeAny_call_defAt (binds := (["self", "book", "column"] : List Str).zip us) hr.depth (KX _ _ lk) rfl lim (PySem.W.codeRec_of KX hcd) rfl (BindsTo.of_eq (hb us hl)) (show ∀ x ∈ (C8.fnScope (meth 55 0)).names, x.2 ≠ .cell by decide +kernel) (fun y hy => ?_) (fun h0 ns kp => ?_)
  · have : y.1 ∈ (["self", "book", "column"] : List Str) := (List.of_mem_zip hy).1
    exact (show ∀ k ∈ (["self", "book", "column"] : List Str), (C8.fnScope (meth 55 0)).names.lookup k = some .local by decide +kernel) _ this
  have hcb : ∃ o v, base.get? cc = some o ∧ o.data = .cell v := by
    have := e0.mod.kin _ _ lcell
    exact ⟨_, _, this, rfl⟩
  have I := inv_startS (P := P) (w := wd) (K := K) (mg := mg) (Ns := ["self", "book", "column"]) (ps := ["self", "book", "column"]) (qual := "ColumnWatch.__init__") (scope := C8.fnScope (meth 55 0)) (f := f) (cda := cda) (n := s.toks + ((["self", "book", "column"] : List Str).zip us).length) (by decide +kernel) (by decide) rfl (by decide +kernel) (cells_of (by decide +kernel)) hr.hd e0 hcb rfl rel ns kp
  have hR : Room 3 (cxS P wd K mg base ["self", "book", "column"] "ColumnWatch.__init__" (C8.fnScope (meth 55 0)) f cda cc A outer s H).A := hr.deeper _
  have fin : ∀ {fl : Flow} {s' : Shared}, SP (cxS P wd K mg base ["self", "book", "column"] "ColumnWatch.__init__" (C8.fnScope (meth 55 0)) f cda cc A outer s H) [] { nx := fun _ H' => Q .non H', rt := fun v H' => v = .non ∧ Q .non H' } fl s' → CR C8.CX0 outer P wd H s Q E (.ok (.ret (match fl with | .ret v => v | _ => .none))) s' := by
    intro fl s' h
    cases fl with
    | next => obtain ⟨σ2, H2, J, q⟩ := h; exact ⟨.non, H2, J.os, J.bare, J.base, J.hok, rfl, q⟩
    | ret u => obtain ⟨v, σ2, H2, J, rv, rfl, q⟩ := h; exact ⟨.non, H2, J.os, J.bare, J.base, J.hok, rv, q⟩
    | brk => obtain ⟨_, _, _, q⟩ := h; exact (show False from q).elim
    | cont => obtain ⟨_, _, _, q⟩ := h; exact (show False from q).elim
  refine PySem.ks_wpAt_execs_cons (at_super (R := fun H' => ∃ (m : Addr) (ms : List Str), Ex H0 H' ∧ H' x = some (.ins (cW K) dx (kwF b m c.home "X")) ∧ SqL K H' m (ms.map V.str) ∧ ∀ k, k ∈ ms ↔ Mkb B k) F (by decide +kernel) T.b_super (by decide +kernel) (by decide +kernel) I hx rfl rfl (by decide +kernel) rfl (by decide) (ok_winit T (wc_W T) F2) b2 hR (by decide) (x_acons (x_var 1) (x_acons (x_fld (x_var 2) (eH _ _ hcp) T.cl_C T.nC_home (colF_home c)) x_anil)) (fun H1 e1 => ?_) fun s' H' I' ⟨m, ms, e', h1, h2, h3⟩ => ?_)
  · exact ⟨x, dx, b, a, B, c.home, H0, rfl, x0, eH.trans e1, e1 _ _ hx, hB, O, fun m ms H' e' h1 h2 h3 => ⟨m, ms, e', h1, h2, h3⟩⟩
  refine PySem.wpAt_of_wpAny (wpAny_mono (?_ : wpAny _ _ _ (SP (cxS P wd K mg base ["self", "book", "column"] "ColumnWatch.__init__" (C8.fnScope (meth 55 0)) f cda cc A outer s H) [] { nx := fun _ H' => Q .non H', rt := fun v H' => v = .non ∧ Q .non H' }) (fun _ _ => False) s') (fun fl s2 h => fin h) fun _ _ z => z.elim)
  refine (show bT (cxS P wd K mg base ["self", "book", "column"] "ColumnWatch.__init__" (C8.fnScope (meth 55 0)) f cda cc A outer s H) _ { nx := fun _ H' => Q .non H', rt := fun v H' => v = .non ∧ Q .non H' } (L2.start ["self", "book", "column"] [.ref x, .ref b, .ref cp]) H' from ?_) [] s' I'
  have nd : (["self", "book", "column"] : List Str).Nodup := by decide
  have hh : c.home ∈ B.kN := (O.cs _ mc).2.1
  have nc : cp ≠ x := fun z => by rw [z, x0] at hcp; cases hcp
  refine b_fldE (x_var 2) (x_var 0) h1 T.cl_W T.nW_by (by exact Nat.le_of_ble_eq_true rfl) fun H2 e2 => ?_
  generalize hG2 : upd H2 x (.ins (cW K) dx (putF "by" (.ref cp) (kwF b m c.home "X"))) = G2
  have E2 : Ex H0 G2 := by rw [← hG2]; exact Ex.mut (e'.trans e2) x0
  have x2 : G2 x = some (.ins (cW K) dx [("law_book", .ref b), ("home", .str c.home), ("can_mark", .ref m), ("sorts", .str "X"), ("by", .ref cp)]) := by rw [← hG2]; exact upd_same
  have m2 : SqL K G2 m (ms.map V.str) := by rw [← hG2]; exact sq_ins (e2 _ _ h1) (ex_l e2 h2)
  refine b_fldE (x_fld (x_var 2) (E2 _ _ hcp) T.cl_C T.nC_goal (colF_goal c)) (x_var 0) x2 T.cl_W T.nW_goal (by exact Nat.le_of_ble_eq_true rfl) fun H3 e3 => ?_
  generalize hG3 : upd H3 x (.ins (cW K) dx (putF "goal" (.str c.goal) [("law_book", .ref b), ("home", .str c.home), ("can_mark", .ref m), ("sorts", .str "X"), ("by", .ref cp)])) = G3
  have E3 : Ex H0 G3 := by rw [← hG3]; exact Ex.mut (E2.trans e3) x0
  have x3 : G3 x = some (.ins (cW K) dx [("law_book", .ref b), ("home", .str c.home), ("can_mark", .ref m), ("sorts", .str "X"), ("by", .ref cp), ("goal", .str c.goal)]) := by rw [← hG3]; exact upd_same
  have m3 : SqL K G3 m (ms.map V.str) := by rw [← hG3]; exact sq_ins (e3 _ _ x2) (ex_l e3 m2)
  have wa3 : WAt K (cW K) G3 x ⟨dx, b, m, a, B, ms, c.home, "X", [("law_book", .ref b), ("home", .str c.home), ("can_mark", .ref m), ("sorts", .str "X"), ("by", .ref cp), ("goal", .str c.goal)]⟩ := ⟨x3, rfl, rfl, rfl, rfl, ln_fo b m cp c.home c.goal "X", hB.mono E3, O, m3, h3, hh⟩
  have oth : ∀ d, othC ⟨dx, b, m, a, B, ms, c.home, "X", [("law_book", .ref b), ("home", .str c.home), ("can_mark", .ref m), ("sorts", .str "X"), ("by", .ref cp), ("goal", .str c.goal)]⟩ c d = (decide (d.home = c.home) && (d.fall && !decide (d.word = c.word)) && decide (d.goal ∈ ms)) := fun d => rfl
  refine b_fld (S := fun v H' => (v = .non ∧ (∀ d ∈ B.cols, (decide (d.home = c.home) && (d.fall && !decide (d.word = c.word)) && decide (d.goal ∈ ms)) = false)) ∨ ∃ d ∈ B.cols, (decide (d.home = c.home) && (d.fall && !decide (d.word = c.word)) && decide (d.goal ∈ ms)) = true ∧ ColAt K H' v d) (xp_meth0 (ok_first T) hR (x_var 0) x3 (wa3.ln _ (by decide)) fun H4 e4 Q q => ⟨x, _, c, rfl, ⟨wa3.mono e4, cp, dc, rfl, (E3.trans e4) _ _ hcp⟩, fun v H' e h => q v H' e h⟩) (x_var 0) x3 T.cl_W T.nW_other_column (by exact Nat.le_of_ble_eq_true rfl) (fun v H4 e4 hv => ?_) fun v H1 H2 e h => h.imp id fun ⟨d, hd, h1, p, dx, h2, h3⟩ => ⟨d, hd, h1, p, dx, h2, e _ _ h3⟩
  generalize hG4 : upd H4 x (.ins (cW K) dx (putF "other_column" v [("law_book", .ref b), ("home", .str c.home), ("can_mark", .ref m), ("sorts", .str "X"), ("by", .ref cp), ("goal", .str c.goal)])) = G4
  have E4 : Ex H0 G4 := by rw [← hG4]; exact Ex.mut (E3.trans e4) x0
  have x4 : G4 x = some (.ins (cW K) dx [("law_book", .ref b), ("home", .str c.home), ("can_mark", .ref m), ("sorts", .str "X"), ("by", .ref cp), ("goal", .str c.goal), ("other_column", v)]) := by rw [← hG4]; exact upd_same
  have m4 : SqL K G4 m (ms.map V.str) := by rw [← hG4]; exact sq_ins (e4 _ _ x3) (ex_l e4 m3)
  have hv4 : (v = .non ∧ (∀ d ∈ B.cols, (decide (d.home = c.home) && (d.fall && !decide (d.word = c.word)) && decide (d.goal ∈ ms)) = false)) ∨ ∃ d ∈ B.cols, (decide (d.home = c.home) && (d.fall && !decide (d.word = c.word)) && decide (d.goal ∈ ms)) = true ∧ ColAt K G4 v d := by
    refine hv.imp id fun ⟨d, hd, h1, p, dx', h2, h5⟩ => ⟨d, hd, h1, p, dx', h2, ?_⟩
    rw [← hG4, upd_ne (fun z => by
      rw [z, e4 _ _ x3] at h5
      injection h5 with h5
      injection h5 with _ _ h5
      cases h5)]
    exact h5
  refine b_fldE (x_ifE (v := .str (if c.fall then ("SXY" : Str) else ("CXY" : Str))) (t_is (t_eqS (x_fld (x_var 2) (E4 _ _ hcp) T.cl_C T.nC_rule (colF_rule c)) (x_gl T.s_FALL)) (b' := c.fall) (by cases c.fall <;> decide)) (fun h => by rw [if_pos h]; exact x_str) fun h => by rw [if_neg (by rw [h]; exact Bool.false_ne_true)]; exact x_str) (x_var 0) x4 T.cl_W T.nW_sorts (by exact Nat.le_of_ble_eq_true rfl) fun H5 e5 => b_nil ?_
  generalize hG5 : upd H5 x (.ins (cW K) dx (putF "sorts" (.str (if c.fall then ("SXY" : Str) else ("CXY" : Str))) [("law_book", .ref b), ("home", .str c.home), ("can_mark", .ref m), ("sorts", .str "X"), ("by", .ref cp), ("goal", .str c.goal), ("other_column", v)])) = G5
  have E5 : Ex H0 G5 := by rw [← hG5]; exact Ex.mut (E4.trans e5) x0
  have x5 : G5 x = some (.ins (cW K) dx (cwF b m cp c.home c.goal (if c.fall then ("SXY" : Str) else ("CXY" : Str)) v)) := by rw [← hG5]; exact upd_same
  have m5 : SqL K G5 m (ms.map V.str) := by rw [← hG5]; exact sq_ins (e5 _ _ x4) (ex_l e5 m4)
  have col5 : ∀ d, ColAt K G4 v d → ColAt K G5 v d := fun d ⟨p, dx', h2, h5⟩ => ⟨p, dx', h2, by
    rw [← hG5, upd_ne (fun z => by
      rw [z, x4] at h5
      injection h5 with h5
      injection h5 with _ _ h5
      cases h5)]
    exact e5 _ _ h5⟩
  have wa5 : WAt K (cW K) G5 x ⟨dx, b, m, a, B, ms, c.home, if c.fall then ("SXY" : Str) else ("CXY" : Str), cwF b m cp c.home c.goal (if c.fall then ("SXY" : Str) else ("CXY" : Str)) v⟩ := ⟨x5, rfl, rfl, rfl, rfl, ln_cw b m cp c.home c.goal _ v, hB.mono E5, O, m5, h3, hh⟩
  rcases hv4 with ⟨ev, hno⟩ | ⟨d, hd, ht, hcol⟩
  · refine q _ ⟨cp, dc, c, v, none⟩ G5 E5 ⟨wa5, rfl, rfl, rfl, E5 _ _ hcp, ev, mc, rfl, rfl⟩ rfl rfl ⟨fun h => (by cases h), fun ⟨d, hd, h⟩ => ?_⟩
    have := hno d hd
    have h : (decide (d.home = c.home) && (d.fall && !decide (d.word = c.word)) && decide (d.goal ∈ ms)) = true := h
    rw [this] at h
    cases h
  · have ht' := ht
    simp only [Bool.and_eq_true, decide_eq_true_eq, Bool.not_eq_true', decide_eq_false_iff_not] at ht'
    refine q _ ⟨cp, dc, c, v, some d⟩ G5 E5 ⟨wa5, rfl, rfl, rfl, E5 _ _ hcp, ⟨col5 d hcol, hd, ht'.1.2.1, ht'.1.1, ht'.1.2.2, (h3 _).mp ht'.2⟩, mc, rfl, rfl⟩ rfl rfl ⟨fun _ => ⟨d, hd, ht⟩, fun _ => rfl⟩
end
end Ls
/-! LsV1 -/
set_option Elab.async false
set_option linter.all false
set_option maxRecDepth 100000
namespace Lx
open PySem PySem.Spec PyProof.Rows L2 Evl
section
variable {X : Cx} {a c d o e : Expr} {es : List Expr} {σ : L2.St} {H : Hp} {pos p1 apos : Pos} {R : Addr → Hp → Prop} {C : Addr} {sp : Sp} {k j : Nat} {vs : List V} {s b : Str}
theorem xn_ifE {t : Bool} (h : XT X d σ H t) (h1 : t = true → XN X a σ H R) (h2 : t = false → XN X c σ H R) : XN X (.IfExp d a c pos) σ H R :=
  xn (pe_ifExp ptT peT peT) fun H1 e Q q => h H1 e _ fun H2 e2 => by
    cases t with
    | true => exact h1 rfl H2 (e.trans e2) Q fun p H3 hp e3 => q p H3 (fresh_back e2 hp) (e2.trans e3)
    | false => exact h2 rfl H2 (e.trans e2) Q fun p H3 hp e3 => q p H3 (fresh_back e2 hp) (e2.trans e3)
theorem xn_mkR {x : Str} {f : Addr} (M : Mk X.K C f) (F : FnR X.prog X.w X.K X.mg X.base C8.CX0 k f sp) (hr : Room j X.A) (hm : X.mg x = some (.ref C)) (ha : XA X (a :: es) σ H vs) (hs : PM C sp vs H R) (hk : k + 1 ≤ j := by decide) (hg : Gl X x := by rfl) (hdb : (x == ("__debug__" : Str)) = false := by decide)
    (he : starEach (a :: es) X.env = (false, eval a X.env) :: starEach es X.env := by rfl) (hpl : (backTo pos (starEach es X.env)).any (·.1) = false := by rfl) : XN X (.Call (.Name x p1) (a :: es) [] pos) σ H R :=
  xn (StX.pe_makeR M F (hr.mono hk) hg hm C8.pass0 paT hdb he hpl) fun H1 e Q q => ha H1 e _ fun H2 e2 => fun x dx hx hdx n => hs H2 (e.trans e2) x dx hx hdx n _ fun H3 e3 r => ⟨rfl, q x H3 (fresh_back e2 hx) (e2.trans e3) r⟩
theorem xl_split (ho : XE X o σ H (.str s)) (he : XE X e σ H (.str b)) (h0 : (b.length == 0) = false) (hl : s.length ≤ 1000) (hs : starEach [e] X.env = [(false, eval e X.env)] := by rfl) (hbase : attributeBase o "split" X.env (eval o X.env) = eval o X.env := by rfl) (hline : (apos.endLine == pos.line) = true := by rfl) :
    XL X (.Call (.Attribute o "split" apos) [e] [] pos) σ H ((Txt.split s b).map V.str) :=
  xl (pe_split peT peT hs hbase hline) fun H1 e1 Q q => ho H1 e1 _ fun H2 e2 => ⟨⟨s, rfl⟩, he H2 (e1.trans e2) _ fun H3 e3 => ⟨s, b, rfl, rfl, h0, by rw [sizeLine_eq]; omega, fun p hp => q p _ (fresh_back (e2.trans e3) hp) ((e2.trans e3).trans (Ex.new hp)) upd_same⟩⟩
end
end Lx
namespace Ls
open PySem PySem.Spec PyProof.Rows L2 Lx Ln Lsu
open Evl (Ex Ex.refl Ex.trans Ex.mut Ex.new Ev EvT EvL EvU EvA ex_l ex_t ex_rd sq_of st_of sz_of sz_lt fresh_back)
open Lsm (X5 O3 Y4 L10 Le Wr Lb Qn Cf)
theorem name_sp {s : Str} (h : NameOk s) : 32 ∉ s.cps.toList := fun hc => absurd (h.lt 32 hc) (by decide +kernel)
theorem split_q {w n : Str} (hw : 32 ∉ w.cps.toList) (hn : 32 ∉ n.cps.toList) : Txt.split (w ++ " " ++ n) " " = [w, n] := by
  have e1 : w ++ " " ++ n = SX.S (w.cps.toList ++ 32 :: n.cps.toList) := by
    rw [← SX.S_tl w, ← SX.S_tl n]
    show SX.S _ ++ SX.S [32] ++ SX.S _ = _
    rw [SX.S_cat, SX.S_cat, List.append_assoc]
    simp
  have e2 : (" " : Str) = SX.S [32] := by rfl
  rw [e1, e2, SX.split_S (by simp) (by decide)]
  have := SX.spl_join (c := 32) (sep := []) (parts := [w.cps.toList, n.cps.toList]) (by simp) (fun p hp => by
    rcases List.mem_cons.mp hp with rfl | hp
    · exact hw
    · rw [List.mem_singleton.mp hp]; exact hn)
  have e3 : TL.joinL [32] [w.cps.toList, n.cps.toList] = w.cps.toList ++ 32 :: n.cps.toList := by rfl
  rw [e3] at this
  rw [this]
  show [SX.S _, SX.S _] = _
  rw [SX.S_tl, SX.S_tl]
/-- a question: undue of a kind; loose, half, the wrong of a column -/
inductive Qu where
  | kind (k : Str)
  | col (n : Qn) (c : Col)
def Qu.w : Qu → Str | .kind _ => "undue" | .col n c => qS c.fall n
def Qu.n : Qu → Str | .kind k => k | .col _ c => c.word
def Qu.t (q : Qu) : Str := q.w ++ " " ++ q.n
def Qu.isK : Qu → Bool | .kind _ => true | .col _ _ => false
def Qu.ok (B : Bk) : Qu → Prop | .kind k => k ∈ B.kN | .col _ c => c ∈ B.cols
theorem Qu.nm {B : Bk} (O : BkOk B) {q : Qu} (h : q.ok B) : NameOk q.n := by
  cases q with
  | kind k =>
    have h : k ∈ B.kN := h
    unfold Bk.kN at h
    obtain ⟨z, hz, rfl⟩ := List.mem_map.mp h
    exact O.nm _ hz
  | col n c => exact (O.cs c h).1
theorem qw_sp (q : Qu) : 32 ∉ q.w.cps.toList ∧ q.w.length ≤ 8 := by
  cases q with
  | kind k =>
    show 32 ∉ ("undue" : Str).cps.toList ∧ ("undue" : Str).length ≤ 8
    exact ⟨by decide +kernel, by decide +kernel⟩
  | col n c =>
    show 32 ∉ (qS c.fall n).cps.toList ∧ (qS c.fall n).length ≤ 8
    cases n <;> cases c.fall <;> exact ⟨by decide +kernel, by decide +kernel⟩
structure TfS (P : Program) (K : PySem.W.Frag) : Prop where
  w : ∃ f, Mk K (cW K) f ∧ SupW P K f
section
variable {P : Program} {wd : World} {K : PySem.W.Frag} {mg : Str → Option Value} {base : Heap}
def WatR (K : PySem.W.Frag) (B : Bk) : Qu → Addr → Hp → Prop
  | .kind k => fun p H => ∃ W, WAt K (cK K) H p W ∧ W.B = B ∧ W.home = k ∧ W.sorts = "X"
  | .col _ c => fun p H => ∃ W x, CwAt K H p W x ∧ W.B = B ∧ x.c = c ∧ (x.oc.isSome = true ↔ ∃ d ∈ B.cols, othC W c d = true)
theorem m_cwatch {H : Hp} {b cp dc : Addr} {a : BkA} {B : Bk} {c : Col} (h : BkAt K H b a B) (O : BkOk B) (hc : H cp = some (.ins (cC K) dc (colF c))) (mc : c ∈ B.cols) : PM (cW K) (spCWI K) [.ref b, .ref cp] H (fun p H2 => ∃ W x, CwAt K H2 p W x ∧ W.B = B ∧ x.c = c ∧ (x.oc.isSome = true ↔ ∃ d ∈ B.cols, othC W c d = true)) := fun H1 e x dx hx hd n Q q =>
  ⟨x, dx, b, a, B, c, cp, dc, H1, rfl, hx, fun u o hu => by
    have n1 : u ≠ x := fun z => by rw [z, hx] at hu; cases hu
    have n2 : u ≠ dx := fun z => by rw [z, hd] at hu; cases hu
    rw [upd_ne n1, upd_ne n2]
    exact hu, upd_same, h.mono e, O, e _ _ hc, mc, fun W xx H' e' h1 h2 h3 h4 => q H' e' ⟨W, xx, h1, h2, h3, h4⟩⟩
theorem col_get {H : Hp} {b : Addr} {a : BkA} {B : Bk} (h : BkAt K H b a B) (O : BkOk B) {c : Col} (hc : c ∈ B.cols) : ∃ p dc, H p = some (.ins (cC K) dc (colF c)) ∧ DGet H a.d3 (.str c.word) (some (.ref p)) := by
  obtain ⟨i, hi⟩ := List.mem_iff_getElem?.mp hc
  obtain ⟨v, hv, p, dc, rfl, hp⟩ := prd_at' h.hv hi
  refine ⟨p, dc, hp, ?_⟩
  have g := get_s (k := c.word) (.inl h.hc : Rd H a.d3 _)
  rw [val_at (v := .ref p) (List.mem_map.mpr ⟨(c, .ref p), ?_, rfl⟩) (by
    rw [colD_keys B a.vs (paired_len h.hv)]
    exact List.Pairwise.map _ (fun _ _ h e => h (Sum.inr.inj e)) (List.nodup_append.mp O.nd).2.1)] at g
  · exact g
  · exact List.mem_of_getElem? (i := i) (List.getElem?_zip_eq_some.mpr ⟨hi, hv⟩)
def spWof (K : PySem.W.Frag) : Sp := fun vs H Q _ => ∃ b a B qu, vs = [.ref b, .str (Qu.t qu)] ∧ BkAt K H b a B ∧ BkOk B ∧ qu.ok B ∧ ∀ p H', H p = none → Ex H H' → WatR K B qu p H' → Q (.ref p) H'
theorem qt_len {B : Bk} (O : BkOk B) {q : Qu} (h : q.ok B) : q.t.length ≤ 20 := by
  have h1 := (qw_sp q).2
  have h2 := (Qu.nm O h).hi
  unfold Qu.t
  rw [len_app, len_app]
  have : (" " : Str).length = 1 := rfl
  omega
theorem ok_watch_of (T : Tf K mg) (S : TfS P K) : C8.Cal P wd K mg base 6 "watch_of" (spWof K) [] := by
  refine cal_of (N := ["book", "question", "word", "name"]) T.d_watch_of (by decide +kernel) (fun vs H Q E ⟨b, a, B, qu, e, _⟩ => by rw [e]; rfl) fun f cdv A outer s H vs Q E hr nd h => ?_
  obtain ⟨b, a, B, qu, rfl, hB, O, hq, q⟩ := h
  refine b_asg (xp_l (xl_split (x_var 1) x_str (by decide) (Nat.le_trans (qt_len O hq) (by decide)))) (pg_unl rfl (pgs_cons (pg_name (i := 2) nd rfl (.inl rfl)) (pgs_cons (pg_name (i := 3) nd rfl (.inl rfl)) pgs_nil))) fun v H1 e1 ⟨l, ev, hl⟩ => ?_
  rw [show qu.t = qu.w ++ " " ++ qu.n from rfl, split_q (qw_sp qu).1 (name_sp (Qu.nm O hq))] at hl
  refine ⟨l, _, ev, sq_of hl, rfl, _, _, rfl, _, _, rfl, rfl, ?_⟩
  have hB1 := hB.mono e1
  have hw : decide (qu.w = "undue") = qu.isK := by
    cases qu with
    | kind k => show decide (("undue" : Str) = "undue") = true; decide
    | col n c => show decide (qS c.fall n = "undue") = false; cases n <;> cases c.fall <;> decide
  refine b_retN' (xn_ifE (t_is (t_eqS (x_var 2) x_str) hw) (R := WatR K B qu) (fun hb => ?_) fun hb => ?_) fun p H2 p0 e2 r => q p H2 (fresh_back e1 p0) (e1.trans e2) r
  · cases qu with
    | col n c => cases hb
    | kind k => exact xn_mk (ok_kwatch T) hr (x_acons (x_var 0) (x_acons (x_var 3) x_anil)) (m_kwatch hB1 O hq)
  · cases qu with
    | kind k => cases hb
    | col n c =>
      obtain ⟨cp, dc, hcp, g⟩ := col_get hB1 O hq
      obtain ⟨fw, M, SW⟩ := S.w
      exact xn_mkR M (ok_cwinit T SW) hr T.g_W (x_acons (x_var 0) (x_acons (x_dget hr (x_fld (x_var 0) hB1.hb T.cl_B T.nB_column_table bkF_3) (x_var 3) g) x_anil)) (m_cwatch hB1 O hcp hq)
/-! ### checked_question -/
theorem q_mem {B : Bk} {q : Qu} (h : q.ok B) : q.t ∈ qsB B := by
  unfold qsB
  cases q with
  | kind k => exact List.mem_append_left _ (List.mem_append_right _ (List.mem_map.mpr ⟨k, h, rfl⟩))
  | col n c =>
    refine List.mem_append_left _ (List.mem_append_left _ (List.mem_flatMap.mpr ⟨c, h, ?_⟩))
    show qS c.fall n ++ " " ++ c.word ∈ colQs c
    unfold colQs lastQ
    cases n with
    | loose => exact List.mem_cons_self ..
    | half => exact List.mem_cons_of_mem _ (List.mem_cons_self ..)
    | wrong => cases c.fall <;> exact List.mem_cons_of_mem _ (List.mem_cons_of_mem _ (List.mem_cons_self ..))
def spCQ (K : PySem.W.Frag) : Sp := fun vs H Q _ => ∃ b a B qu, vs = [.ref b, .str (Qu.t qu)] ∧ BkAt K H b a B ∧ BkOk B ∧ qu.ok B ∧ ∀ H', Ex H H' → Q (.str qu.t) H'
theorem v_cq {H : Hp} {b : Addr} {a : BkA} {B : Bk} {qu : Qu} (h : BkAt K H b a B) (O : BkOk B) (hq : qu.ok B) : PV (spCQ K) [.ref b, .str qu.t] H (.str qu.t) := fun H1 e Q q => ⟨b, a, B, qu, rfl, h.mono e, O, hq, q⟩
theorem ok_cq (T : Tf K mg) : C8.Cal P wd K mg base 2 "checked_question" (spCQ K) [] := by
  refine cal_of (N := ["book", "question"]) T.d_checked_question (by decide +kernel) (fun vs H Q E ⟨b, a, B, qu, e, _⟩ => by rw [e]; rfl) fun f cdv A outer s H vs Q E hr nd h => ?_
  obtain ⟨b, a, B, qu, rfl, hB, O, hq, q⟩ := h
  refine b_if (t_is (t_not (t_val (x_callN (ok_stands T) hr (x_var 1) (xn_meth0 (R := fun p H' => H' p = some (.lst ((qsB B).map V.str))) (ok_questions T) hr (x_var 0) hB.hb (by rfl) fun H1 e1 Q q => ⟨b, a, B, rfl, hB.mono e1, O, q⟩) (y := .bl (decide (qu.t ∈ qsB B))) fun p H1 e1 h1 => v_stands (.inl (.inl (sq_of h1)))))) (b' := false) (by rw [decide_eq_true (q_mem hq)] <;> rfl)) (fun e => nomatch e) fun _ H1 e1 => b_nil (b_ret (x_var 1) fun H2 e2 => q H2 (e1.trans e2))
end
end Ls
/-! LsN8 -/
set_option Elab.async false
set_option linter.all false
set_option maxRecDepth 100000
namespace Lx
open PySem PySem.Spec PyProof.Rows L2 Evl
section
variable {X : Cx} {o e k v : Expr} {σ : L2.St} {H : Hp} {y : V} {pos p1 p2 apos : Pos} {a : Addr} {xs : List V}
/-! ### {t: v}, t a tuple of texts -/
def tDispT1 (tk tv : TE) : TE := fun σ H Q => ∀ p, H p = none → tk σ (upd H p (.dT [])) fun x H1 => tv σ H1 fun y H2 => H2 p = some (.dT []) ∧ ∃ (b : Addr) (kk : List Key), x = .ref b ∧ H2 b = some (.tup (kk.map kV)) ∧ Q (.ref p) (upd H2 p (.dT [(kk, y)]))
theorem pe_dispT1 {tk tv : TE} (hu : X.A.units + 1 < cLine) (hk : PE X k tk) (hv : PE X v tv) : PE X (.Dict [some k] [v] pos) (tDispT1 tk tv) := by
  refine ⟨fun pins s σ H Q I q => ?_⟩
  have hn := I.hok.fresh (Nat.le_refl s.heap.objs.size)
  have I1 := I.laid (a := s.heap.objs.size) (o := .dT []) (h' := s.heap.push { cls := .type "dict", data := .dict #[] }) (t' := s.toks) (fun _ _ q => Heap.get?_push_of_some _ q) (Nat.le_refl _) (dt_empty s.heap I.big)
  rw [arm_eval_Dict, zip_pairTrees [some k] [v] X.env pos rfl rfl, dictDisplay_pairs _ (by simp [pairTrees]) (by simp [pairTrees])]
  refine wpAny_bind (wpAny_standAt (wpAny_bind ?_))
  refine wpAny_subDictH (knd := tupleKind (mixKind X.prog X.w)) (Q := fun d s' => wpAny (model X.prog X.w) X.A (pure (Value.ref d)) _ _ s') (show X.A.units < cLine by omega) (by simp [pairTrees]) ?_
  refine pairTrees_cons_walk (thn (hk.run pins _ σ _ _ I1 (q _ hn)) fun u s1 ⟨x, H1, I2, rx, q1⟩ => thn (hv.run pins s1 σ H1 _ I2 q1) fun w2 s2 ⟨y, H2, I3, ry, e, b, kk, ex, eb, q2⟩ => pairTrees_nil_walk ?_)
  subst ex
  cases rx
  obtain ⟨z, hd, xs0, r0, dd⟩ := dt_of I3.hok e
  cases r0
  refine ⟨[(kk, b, w2)], ⟨rfl, rfl, key_of I3.hok eb, trivial⟩, dd, fun h' tk dd' hs => wpAny_pure ⟨.ref s.heap.objs.size, _, ?_, rfl, q2⟩⟩
  obtain ⟨ob, es, ep, hq, h2, h3, h4, _, h5⟩ := dd'
  refine d_write I3 (by rw [e]; exact True.intro) hs ⟨ob, hq⟩ ⟨(show 1 ≤ sizeLine by decide), hd, [(kk, b, w2)], .cons ⟨rfl, ?_, ry⟩ .nil, ob, es, ep, hq, h2, h3, h4, h5⟩
  show upd H2 s.heap.objs.size (.dT [(kk, y)]) b = _
  rw [upd_ne (ne_of eb e (fun z => nomatch z))]
  exact eb
theorem xn_dispT1 {j : Nat} {R : Addr → Hp → Prop} {S : V → Hp → Prop} {kk : List Key} (hr : Room j X.A) (hk : XN X k σ H R) (hR : ∀ p H1, Ex H H1 → R p H1 → H1 p = some (.tup (kk.map kV))) (hv : XP X v σ H S) (hS : ∀ y H1 H2, Ex H1 H2 → S y H1 → S y H2) (hU : ∀ y H1 p u, H1 p = some (.dT []) → S y H1 → S y (upd H1 p u)) :
    XN X (.Dict [some k] [v] pos) σ H (fun p H2 => ∃ y, H2 p = some (.dT [(kk, y)]) ∧ S y H2) :=
  xn (pe_dispT1 (hu_of hr) peT peT) fun H1 e1 Q q => fun p hp => hk _ (e1.trans (Ex.new hp)) _ fun b H2 hb e2 r => hv _ ((e1.trans (Ex.new hp)).trans e2) _ fun y H3 e3 s3 =>
    ⟨e3 _ _ (e2 _ _ upd_same), b, kk, rfl, e3 _ _ (hR b H2 ((e1.trans (Ex.new hp)).trans e2) r), q p _ hp (Ex.mut (((Ex.new hp).trans e2).trans e3) hp) ⟨y, upd_same, hU y H3 p _ (e3 _ _ (e2 _ _ upd_same)) s3⟩⟩
/-! ### l.pop(0), l.pop() -/
theorem e_pop0 {x : V} {Q : VK} (hl : H a = some (.lst (x :: xs))) (ho : XE X o σ H (.ref a)) (h : XE X e σ H (.int 0)) (k : ∀ H1, Ex H H1 → Q x (upd H1 a (.lst xs))) (b : BMok X o "pop" apos e [] p2 := by exact ⟨rfl, rfl, rfl, rfl, rfl⟩) :
    eT X (.Call (.Attribute o "pop" apos) [e] [] p2) σ H Q :=
  we (b.pe PySem.F.plainAttrs_list PySem.F.slot_list_pop PySem.F.type_list_pop mt_popAt peT (pa_cons peT pa_nil b.hs)) (ho H (Ex.refl H) _ fun H1 e1 => ⟨.inl ⟨rfl, _, sq_of (e1 _ _ hl)⟩, h H1 e1 _ fun H2 e2 => ⟨a, x :: xs, 0, 0, x, rfl, rfl, e2 _ _ (e1 _ _ hl), by decide, by decide, by unfold seqIndex?; simp, rfl, k H2 (e1.trans e2)⟩⟩)
theorem e_popL {x : V} {Q : VK} (hl : H a = some (.lst (xs ++ [x]))) (ho : XE X o σ H (.ref a)) (k : ∀ H1, Ex H H1 → Q x (upd H1 a (.lst xs))) (hbase : attributeBase o "pop" X.env (eval o X.env) = eval o X.env := by rfl) (hline : (apos.endLine == p2.line) = true := by rfl) :
    eT X (.Call (.Attribute o "pop" apos) [] [] p2) σ H Q :=
  we (pe_bm0 PySem.F.plainAttrs_list PySem.F.slot_list_pop PySem.F.type_list_pop mt_pop peT hbase hline) (ho H (Ex.refl H) _ fun H1 e1 => ⟨.inl ⟨rfl, _, sq_of (e1 _ _ hl)⟩, a, xs ++ [x], x, rfl, rfl, e1 _ _ hl, by simp, by
    have := k H1 e1
    rw [List.dropLast_concat]
    exact this⟩)
end
end Lx
namespace Ln
open PySem PySem.Spec PyProof.Rows L2 Lx
open Evl (Ex Ex.refl Ex.trans Ex.mut Ex.new Ev EvT EvL EvU EvA ex_l ex_t ex_rd sq_of st_of sz_of sz_lt fresh_back)
section
variable {X : Cx} {rest : List Stmt} {σ : L2.St} {H : Hp} {N : Nat} {D : EndsN} {pos : Pos}
/-- a, b = x, y: stored from the right -/
theorem bn_par (i j : Nat) {x y : Str} {a b : Expr} {px py pt : Pos} {kt k2 : Nat} {pt2 : Pos} (h : aN X [a, b] σ H N fun vs H1 N1 => ∃ v w, vs = [v, w] ∧ bN X rest D ((σ.set i (some v)).set j (some w)) H1 N1) (hc : X.calm = true := by rfl) (hN : X.N.Nodup := by assumption) (hi : X.N[i]? = some x := by rfl) (hj : X.N[j]? = some y := by rfl) (hij : i ≠ j := by decide)
    (hx : X.env.scope.names.lookup x = some .local := by rfl) (hy : X.env.scope.names.lookup y = some .local := by rfl)
    (hw : swappedStores [.Tuple [.Name x px, .Name y py] kt pt] (.Tuple [a, b] k2 pt2) X.env = pure (some [x, y]) := by rfl)
    (hs : swapsWithSole [.Tuple [.Name x px, .Name y py] kt pt] (.Tuple [a, b] k2 pt2) pos.line X.env = pure false := by rfl) :
    bN X (.Assign [.Tuple [.Name x px, .Name y py] kt pt] (.Tuple [a, b] k2 pt2) pos :: rest) D σ H N := by
  refine bn_cons fun pins s hn I => ?_
  refine PyProof.Rows.Assign_Tuple_swapped (wpAny_Tuple_spliced (thn (h pt2 pins s hn I) fun us s1 ⟨vs, H1, N1, n1, I1, r1, v, w, e1, q1⟩ => ?_)) hs hw
  subst e1
  obtain ⟨u1, u2, rfl, rv, rw'⟩ : ∃ u1 u2, us = [u1, u2] ∧ RelV v u1 ∧ RelV w u2 := by
    cases r1 with
    | cons p q =>
      cases q with
      | cons p' q' =>
        cases q'
        exact ⟨_, _, rfl, p, p'⟩
  refine ⟨show 2 ≤ sizeLine from by decide, ?_⟩
  have I2 : Inv X pins σ H1 { s1 with heap := s1.heap.push { cls := .type "tuple", data := .seq [u1, u2].toArray } } := I1.kept (t' := s1.toks) fun b o e => Heap.get?_push_of_some _ e
  refine unpackItems_tuple (items := #[u1, u2]) (I.ok.hd hc) (IsTup.new s1.heap _) fun h' hx' => ?_
  have I3 := I2.kept (h' := h') (t' := s1.toks) fun b o e => hx' b o (Nat.ne_of_lt (Heap.lt_size e)) e
  show wpAny _ _ (assignInOrder [fun v => bindName X.env y v, fun v => bindName X.env x v] [u2, u1]) _ _ _
  refine assignInOrder_cons (wpAny_bindName (wpAny_mono (wpAny_toks_of (s := { s1 with heap := h' }) n1 (store_ok2 (Q := fun _ s2 => Inv X pins (σ.set j (some w)) H1 s2) I3 hN hj (.inl hy) rw' (fun s2 I4 _ => I4) (.inr hy))) (fun _ s2 z => ?_) fun _ _ z => z.2))
  obtain ⟨n2, I4⟩ := z
  refine assignInOrder_cons (wpAny_bindName (wpAny_mono (wpAny_toks_of n2 (store_ok2 (Q := fun _ s3 => Inv X pins ((σ.set j (some w)).set i (some v)) H1 s3) I4 hN hi (.inl hx) rv (fun s3 I5 _ => I5) (.inr hx))) (fun _ s3 z => ?_) fun _ _ z => z.2))
  obtain ⟨n3, I5⟩ := z
  refine assignInOrder_nil ?_
  rw [List.set_comm _ _ (Ne.symm hij)] at I5
  exact ⟨N1, n3, _, H1, I5, q1⟩
end
end Ln
namespace Lx
open PySem PySem.Spec PyProof.Rows L2 Evl
section
variable {X : Cx} {rest : List Stmt} {e c e3 : Expr} {σ : L2.St} {H : Hp} {D : Ends} {a : Addr} {pos p2 : Pos} {y : V}
/-- d[y] = a new thing -/
theorem b_dputN {j : Nat} {H4 : Addr → Hp → Hp} {R : Addr → Hp → Prop} (hr : Room j X.A) (hv : XN X e3 σ H R) (hd : XE X e σ H (.ref a)) (hk : XE X c σ H y) (hp : ∀ p H1, H p = none → Ex H H1 → R p H1 → DPut H1 a y (.ref p) (H4 p H1) ∧ bT X rest D σ (H4 p H1)) (hm : ∀ v H1 H2, Ex H1 H2 → R v H1 → R v H2)
    (hs : swapsWith e3 (some (.Subscript e c p2)) pos.line X.env = pure false := by rfl) : bT X (.Assign [.Subscript e c p2] e3 pos :: rest) D σ H :=
  b_cons (ws (ps_dput (hu_of hr) peT peT peT hs) (hv H (Ex.refl H) _ fun p H1 hp1 e1 s1 => hd H1 e1 _ fun H2 e2 => hk H2 (e1.trans e2) _ fun H3 e3 => ⟨a, H4 p H3, rfl, (hp p H3 hp1 ((e1.trans e2).trans e3) (hm p H1 H3 (e2.trans e3) s1)).1, (hp p H3 hp1 ((e1.trans e2).trans e3) (hm p H1 H3 (e2.trans e3) s1)).2⟩))
end
end Lx
namespace Ln
open PySem PySem.Spec PyProof.Rows L2 Lx
open Evl (Ex Ex.refl Ex.trans)
theorem en_xn {X : Cx} {e : Expr} {σ : L2.St} {H : Hp} {N : Nat} {Q : VN} {R : Addr → Hp → Prop} (h : XN X e σ H R) (k : ∀ p H1, H p = none → Ex H H1 → R p H1 → Q (.ref p) H1 N) : eN X e σ H N Q := en_e (h H (Ex.refl H) _ fun p H1 hp e1 r => k p H1 hp e1 r)
end Ln
/-! LsV2 -/
set_option Elab.async false
set_option linter.all false
set_option maxRecDepth 100000
namespace Ls
open PySem PySem.Spec PyProof.Rows L2 Lx Ln
open Evl (Ex Ex.refl Ex.trans Ex.mut Ex.new Ev EvT EvL EvU EvA ex_l ex_t ex_rd sq_of st_of sz_of sz_lt fresh_back)
/-! ### a watch, seen from afar -/
structure Mc where
  St : Type
  Lb : Type
  Wr : Type
  dec : DecidableEq St
  s0 : St
  uni : List St
  labs : List Lb
  out : Lb → St → Option (St × Wr)
  bad : St → Wr → Bool
  tx : St → List Str
  wt : Wr → Str
  lbR : Lb → Nat → V → Hp → Prop
  C : Addr
  word : Str
  At : Addr → Hp → Prop
def Mc.tv (M : Mc) (s : M.St) : List V := (M.tx s).map V.str
def Mc.key (M : Mc) (s : M.St) : List Key := (M.tx s).map Sum.inr
theorem Mc.key_v (M : Mc) (s : M.St) : (M.key s).map kV = M.tv s := by
  unfold Mc.key Mc.tv
  rw [List.map_map]
  rfl
/-- what is no list and no dict by tuples is kept -/
def Kp (H H' : Hp) : Prop := ∀ a o, H a = some o → (∀ xs, o ≠ .lst xs) → (∀ kvs, o ≠ .dT kvs) → H' a = some o
def Mc.outR (M : Mc) : Option (M.St × M.Wr) → V → Hp → Prop
  | none => fun v _ => v = .non
  | some (t, r) => PrG (M.tv t) (M.wt r)
def Mc.run (M : Mc) : M.St → List M.Lb → Option M.St
  | s, [] => some s
  | s, l :: ls => match M.out l s with
    | none => none
    | some (t, _) => M.run t ls
theorem Mc.run_snoc (M : Mc) {l : M.Lb} {t : M.St} {r : M.Wr} : ∀ {ls : List M.Lb} {s u : M.St}, M.run s ls = some u → M.out l u = some (t, r) → M.run s (ls ++ [l]) = some t
  | [], s, u, h, h1 => by
    cases h
    show (match M.out l s with | none => none | some (t, _) => M.run t []) = some t
    rw [h1]
    rfl
  | k :: ls, s, u, h, h1 => by
    have h : (match M.out k s with | none => none | some (t, _) => M.run t ls) = some u := h
    show (match M.out k s with | none => none | some (t, _) => M.run t (ls ++ [l])) = some t
    cases e : M.out k s with
    | none => rw [e] at h; cases h
    | some q => rw [e] at h; exact M.run_snoc h h1
inductive Mc.Reach (M : Mc) : M.St → Prop where
  | start : M.Reach M.s0
  | step {s t : M.St} {r : M.Wr} {l : M.Lb} : M.Reach s → l ∈ M.labs → M.out l s = some (t, r) → M.Reach t
def Mc.Safe (M : Mc) : Prop := ∀ s, M.Reach s → ∀ l ∈ M.labs, ∀ t r, M.out l s = some (t, r) → M.bad t r = false
def Mc.Way (M : Mc) (ls : List M.Lb) : Prop := ∃ pre l s t r, ls = pre ++ [l] ∧ M.run M.s0 pre = some s ∧ M.out l s = some (t, r) ∧ M.bad t r = true ∧ M.Reach s ∧ l ∈ M.labs ∧ ls.length ≤ 2100
theorem Mc.safe_of (M : Mc) {done : List M.St} (h0 : M.s0 ∈ done) (cl : ∀ s ∈ done, ∀ l ∈ M.labs, ∀ t r, M.out l s = some (t, r) → M.bad t r = false ∧ t ∈ done) : M.Safe := by
  have : ∀ s, M.Reach s → s ∈ done := fun s h => by
    induction h with
    | start => exact h0
    | step _ hl e ih => exact (cl _ ih _ hl _ _ e).2
  exact fun s hs l hl t r e => (cl s (this s hs) l hl t r e).1
def Mc.spB (M : Mc) : Sp := fun vs H Q _ => ∃ w, vs = [.ref w] ∧ M.At w H ∧ ∀ p H', H p = none → Ex H H' → H' p = some (.tup (M.tv M.s0)) → Q (.ref p) H'
def Mc.spL (M : Mc) : SpN := fun vs H N Q => ∃ w, vs = [.ref w] ∧ M.At w H ∧ ∀ l lvs H' N', H l = none → Ex H H' → H' l = some (.lst lvs) → Paired (fun v lb => M.lbR lb N' v H') lvs M.labs → Q (.ref l) H' N'
def Mc.spO (M : Mc) : SpN := fun vs H N Q => ∃ w lb s l p, vs = [.ref w, .ref l, .ref p] ∧ M.At w H ∧ M.lbR lb N (.ref l) H ∧ H p = some (.tup (M.tv s)) ∧ ∀ v H' N', Ex H H' → N ≤ N' → M.outR (M.out lb s) v H' → Q v H' N'
def Mc.spF (M : Mc) : Sp := fun vs H Q _ => ∃ w s r p, vs = [.ref w, .str M.word, .ref p, .str (M.wt r)] ∧ M.At w H ∧ H p = some (.tup (M.tv s)) ∧ ∀ H', Ex H H' → Q (.bl (M.bad s r)) H'
structure McOk (P : Program) (wd : World) (K : PySem.W.Frag) (mg : Str → Option Value) (base : Heap) (M : Mc) : Prop where
  inj : ∀ s t, M.tx s = M.tx t → s = t
  all : ∀ s, s ∈ M.uni
  small : M.uni.length ≤ 2000
  few : M.labs.length ≤ 100
  short : ∀ s, (M.tx s).length ≤ 5 ∧ ∀ y ∈ M.tx s, y.length ≤ 10 ∧ ∀ c ∈ y.cps.toList, c < 16 ^ 8
  lb_keep : ∀ {lb N N' v H H'}, M.lbR lb N v H → N ≤ N' → Kp H H' → M.lbR lb N' v H'
  lb_ref : ∀ {lb N v H}, M.lbR lb N v H → ∃ p, v = .ref p
  at_ex : ∀ {w H H'}, M.At w H → Ex H H' → M.At w H'
  ins : ∀ {w H}, M.At w H → ∃ dx fs, H w = some (.ins M.C dx fs) ∧ ∀ m ∈ (["begin", "labels", "outcome", "is_fault"] : List Str), fs.lookup m = none
  m_begin : C8.Met P wd K mg base 6 M.C "begin" M.spB []
  m_labels : MetT P wd K mg base 6 M.C "labels" M.spL
  m_out : MetT P wd K mg base 6 M.C "outcome" M.spO
  m_fault : C8.Met P wd K mg base 6 M.C "is_fault" M.spF []
theorem Kp.ex {H H' : Hp} (e : Ex H H') : Kp H H' := fun a o h _ _ => e a o h
/-! ### the search's own things: the dict at d, the list at l -/
def Keep2 (d l : Addr) (H H' : Hp) : Prop := ∀ a o, a ≠ d → a ≠ l → H a = some o → H' a = some o
theorem Keep2.kp {d l : Addr} {H H' : Hp} {kvs : List (List Key × V)} {xs : List V} (k : Keep2 d l H H') (hd : H d = some (.dT kvs)) (hl : H l = some (.lst xs)) : Kp H H' := fun a o h n1 n2 =>
  k a o (fun z => by rw [z, hd] at h; cases h; exact n2 _ rfl) (fun z => by rw [z, hl] at h; cases h; exact n1 _ rfl) h
theorem Keep2.ex {d l : Addr} {H0 H H' : Hp} (k : Keep2 d l H H') (e : Ex H0 H) (d0 : H0 d = none) (l0 : H0 l = none) : Ex H0 H' := fun a o h => k a o (fun z => by rw [z, d0] at h; cases h) (fun z => by rw [z, l0] at h; cases h) (e a o h)
theorem Keep2.of_ex {d l : Addr} {H H' : Hp} (e : Ex H H') : Keep2 d l H H' := fun a o _ _ h => e a o h
theorem Keep2.trans {d l : Addr} {H H1 H2 : Hp} (a : Keep2 d l H H1) (b : Keep2 d l H1 H2) : Keep2 d l H H2 := fun x o n1 n2 h => b x o n1 n2 (a x o n1 n2 h)
theorem Keep2.ud {d l : Addr} {H : Hp} {o : HO} : Keep2 d l H (upd H d o) := fun a u n1 _ h => by rw [upd_ne n1]; exact h
theorem Keep2.ul {d l : Addr} {H : Hp} {o : HO} : Keep2 d l H (upd H l o) := fun a u _ n2 h => by rw [upd_ne n2]; exact h
section
variable {P : Program} {wd : World} {K : PySem.W.Frag} {mg : Str → Option Value} {base : Heap} {M : Mc}
def PaOk (M : Mc) (l : Addr) (n N : Nat) (H : Hp) (q : M.St × Addr) : Prop := q.2 ≠ l ∧ ∃ pvs path, H q.2 = some (.lst pvs) ∧ Paired (fun v lb => M.lbR lb N v H) pvs path ∧ M.run M.s0 path = some q.1 ∧ path.length ≤ n
structure Bf (M : Mc) (H0 : Hp) (d l L : Addr) (lvs : List V) (vis wait : List (M.St × Addr)) (done : List M.St) (N : Nat) (H : Hp) : Prop where
  ex : Ex H0 H
  d0 : H0 d = none
  l0 : H0 l = none
  Ll : L ≠ l
  hL : H L = some (.lst lvs)
  lab : Paired (fun v lb => M.lbR lb N v H) lvs M.labs
  hd : H d = some (.dT (vis.map fun q => (M.key q.1, V.ref q.2)))
  hl : H l = some (.lst (wait.map fun q => V.ref q.2))
  pa : ∀ q ∈ vis, PaOk M l done.length N H q
  wt : ∀ q ∈ wait, H q.2 = some (.tup (M.tv q.1))
  nd : (vis.map (·.1)).Nodup
  pm : vis.map (·.1) = done ++ wait.map (·.1)
  rc : ∀ q ∈ vis, M.Reach q.1
  s0 : M.s0 ∈ vis.map (·.1)
theorem PaOk.keep (O : McOk P wd K mg base M) {d l : Addr} {n n' N N' : Nat} {H H' : Hp} {q : M.St × Addr} {kvs : List (List Key × V)} {xs : List V} (h : PaOk M l n N H q) (hn : n ≤ n') (hN : N ≤ N') (k : Keep2 d l H H') (hd : H d = some (.dT kvs)) (hl : H l = some (.lst xs)) : PaOk M l n' N' H' q := by
  obtain ⟨h1, pvs, path, h2, h3, h4, h5⟩ := h
  exact ⟨h1, pvs, path, k _ _ (fun z => by rw [z, hd] at h2; cases h2) h1 h2, Paired.mapP h3 fun _ _ r => O.lb_keep r hN (k.kp hd hl), h4, Nat.le_trans h5 hn⟩
theorem Bf.mono (O : McOk P wd K mg base M) {H0 H H' : Hp} {d l L : Addr} {lvs : List V} {vis wait : List (M.St × Addr)} {done : List M.St} {N N' : Nat} (b : Bf M H0 d l L lvs vis wait done N H) (hN : N ≤ N') (e : Ex H H') : Bf M H0 d l L lvs vis wait done N' H' :=
  ⟨b.ex.trans e, b.d0, b.l0, b.Ll, e _ _ b.hL, Paired.mapP b.lab fun _ _ r => O.lb_keep r hN (Kp.ex e), e _ _ b.hd, e _ _ b.hl, fun q hq => (b.pa q hq).keep O (Nat.le_refl _) hN (Keep2.of_ex (d := d) e) b.hd b.hl, fun q hq => e _ _ (b.wt q hq), b.nd, b.pm, b.rc, b.s0⟩
theorem Bf.tupk {H0 H H' : Hp} {d l L : Addr} {lvs ts : List V} {vis wait : List (M.St × Addr)} {done : List M.St} {N : Nat} {a : Addr} (b : Bf M H0 d l L lvs vis wait done N H) (k : Keep2 d l H H') (h : H a = some (.tup ts)) : H' a = some (.tup ts) :=
  k.kp b.hd b.hl _ _ h (fun _ z => nomatch z) fun _ z => nomatch z
theorem Bf.pop (O : McOk P wd K mg base M) {H0 H : Hp} {d l L : Addr} {lvs : List V} {vis wait : List (M.St × Addr)} {done : List M.St} {N : Nat} {q : M.St × Addr} (b : Bf M H0 d l L lvs vis (q :: wait) done N H) : Bf M H0 d l L lvs vis wait (done ++ [q.1]) N (upd H l (.lst (wait.map fun q => V.ref q.2))) := by
  have k : Keep2 d l H (upd H l (.lst (wait.map fun q => V.ref q.2))) := Keep2.ul
  have dl : d ≠ l := fun z => by have := b.hd; rw [z, b.hl] at this; cases this
  have Ld : L ≠ d := fun z => by have := b.hd; rw [← z, b.hL] at this; cases this
  refine ⟨k.ex b.ex b.d0 b.l0, b.d0, b.l0, b.Ll, k _ _ Ld b.Ll b.hL, Paired.mapP b.lab fun _ _ r => O.lb_keep r (Nat.le_refl _) (k.kp b.hd b.hl), by rw [upd_ne dl]; exact b.hd, upd_same, fun r hr => (b.pa r hr).keep O (by rw [List.length_append]; omega) (Nat.le_refl _) k b.hd b.hl, fun r hr => b.tupk k (b.wt r (List.mem_cons_of_mem _ hr)), b.nd, ?_, b.rc, b.s0⟩
  rw [b.pm, List.append_assoc] <;> rfl
theorem Bf.push (O : McOk P wd K mg base M) {H0 H H1 H2 : Hp} {d l L : Addr} {lvs : List V} {vis wait : List (M.St × Addr)} {done : List M.St} {N : Nat} (b : Bf M H0 d l L lvs vis wait done N H) {t : M.St} {ap aq : Addr} {pvs : List V} {path : List M.Lb} (e1 : Ex H H1) (hp : H ap = none) (hp1 : H1 ap = some (.lst pvs)) (hpa : Paired (fun v lb => M.lbR lb N v H) pvs path) (hrun : M.run M.s0 path = some t) (hlen : path.length ≤ done.length)
    (hq : H aq = some (.tup (M.tv t))) (ht : t ∉ vis.map (·.1)) (hr : M.Reach t) (e2 : Ex (upd H1 d (.dT ((vis ++ [(t, ap)]).map fun q => (M.key q.1, V.ref q.2)))) H2) :
    Bf M H0 d l L lvs (vis ++ [(t, ap)]) (wait ++ [(t, aq)]) done N (upd H2 l (.lst ((wait ++ [(t, aq)]).map fun q => V.ref q.2))) := by
  have dl : d ≠ l := fun z => by have := b.hd; rw [z, b.hl] at this; cases this
  have Ld : L ≠ d := fun z => by have := b.hd; rw [← z, b.hL] at this; cases this
  have k : Keep2 d l H (upd H2 l (.lst ((wait ++ [(t, aq)]).map fun q => V.ref q.2))) := ((Keep2.of_ex e1).trans Keep2.ud).trans ((Keep2.of_ex e2).trans Keep2.ul)
  have apl : ap ≠ l := fun z => by rw [z, b.hl] at hp; cases hp
  have apd : ap ≠ d := fun z => by rw [z, b.hd] at hp; cases hp
  refine ⟨k.ex b.ex b.d0 b.l0, b.d0, b.l0, b.Ll, k _ _ Ld b.Ll b.hL, Paired.mapP b.lab fun _ _ r => O.lb_keep r (Nat.le_refl _) (k.kp b.hd b.hl), by rw [upd_ne dl]; exact e2 _ _ upd_same, upd_same, fun r hr => ?_, fun r hr => ?_, ?_, ?_, fun r hr => ?_, ?_⟩
  · rcases List.mem_append.mp hr with hr | hr
    · exact (b.pa r hr).keep O (Nat.le_refl _) (Nat.le_refl _) k b.hd b.hl
    · rw [List.mem_singleton.mp hr]
      refine ⟨apl, pvs, path, ?_, Paired.mapP hpa fun _ _ r => O.lb_keep r (Nat.le_refl _) (k.kp b.hd b.hl), hrun, hlen⟩
      show upd H2 l _ ap = _
      rw [upd_ne apl]
      exact e2 _ _ (by rw [upd_ne apd]; exact hp1)
  · rcases List.mem_append.mp hr with hr | hr
    · exact b.tupk k (b.wt r hr)
    · rw [List.mem_singleton.mp hr]
      exact b.tupk k hq
  · rw [List.map_append]
    refine List.nodup_append.mpr ⟨b.nd, by simp, fun x hx y hy e => ?_⟩
    have : y = t := by simpa using hy
    exact ht (by rw [← this, ← e]; exact hx)
  · rw [List.map_append, List.map_append, b.pm, List.append_assoc] <;> rfl
  · rcases List.mem_append.mp hr with hr | hr
    · exact b.rc r hr
    · rw [List.mem_singleton.mp hr]
      assumption
  · rw [List.map_append]
    exact List.mem_append_left _ b.s0
theorem key_inj (O : McOk P wd K mg base M) {s t : M.St} (h : M.key s = M.key t) : s = t := O.inj s t (by
  unfold Mc.key at h
  exact (List.map_inj_right (f := (Sum.inr : Str → Key)) (fun _ _ e => Sum.inr.inj e)).mp h)
theorem vis_at (O : McOk P wd K mg base M) : ∀ {vis : List (M.St × Addr)} {q : M.St × Addr}, q ∈ vis → (vis.map (·.1)).Nodup → valV (vis.map fun q => (M.key q.1, V.ref q.2)) (M.key q.1) = some (.ref q.2)
  | [], _, h, _ => nomatch h
  | p :: vis, q, h, nd => by
    rw [List.map_cons] at nd
    by_cases e : p.1 = q.1
    · have : p = q := by
        rcases List.mem_cons.mp h with z | z
        · exact z.symm
        · exact absurd (List.mem_map.mpr ⟨q, z, e.symm⟩) (List.nodup_cons.mp nd).1
      rw [List.map_cons, valV_pos (p := (M.key p.1, V.ref p.2)) (by rw [e]), this]
    · have hq : q ∈ vis := by
        rcases List.mem_cons.mp h with z | z
        · exact absurd (by rw [z]) e
        · exact z
      rw [List.map_cons, valV_neg (p := (M.key p.1, V.ref p.2)) (fun z => e (key_inj O z))]
      exact vis_at O hq (List.nodup_cons.mp nd).2
theorem vis_none (O : McOk P wd K mg base M) : ∀ {vis : List (M.St × Addr)} {t : M.St}, t ∉ vis.map (·.1) → valV (vis.map fun q => (M.key q.1, V.ref q.2)) (M.key t) = none
  | [], _, _ => rfl
  | p :: vis, t, h => by
    rw [List.map_cons] at h
    rw [List.map_cons, valV_neg (p := (M.key p.1, V.ref p.2)) (fun z => h (by rw [← key_inj O z]; exact List.mem_cons_self ..))]
    exact vis_none O fun z => h (List.mem_cons_of_mem _ z)
theorem vis_some (O : McOk P wd K mg base M) {vis : List (M.St × Addr)} {t : M.St} (h : t ∈ vis.map (·.1)) (nd : (vis.map (·.1)).Nodup) : (valV (vis.map fun q => (M.key q.1, V.ref q.2)) (M.key t)).isSome = true := by
  obtain ⟨q, hq, e⟩ := List.mem_map.mp h
  rw [← e, vis_at O hq nd]
  rfl
theorem Bf.done_le (O : McOk P wd K mg base M) {H0 H : Hp} {d l L : Addr} {lvs : List V} {vis wait : List (M.St × Addr)} {done : List M.St} {N : Nat} (b : Bf M H0 d l L lvs vis wait done N H) : vis.length ≤ M.uni.length ∧ done.length + wait.length = vis.length := by
  have := M.dec
  refine ⟨?_, ?_⟩
  · have := nd_le b.nd (m := M.uni) fun s _ => O.all s
    rw [List.length_map] at this
    exact this
  · have := congrArg List.length b.pm
    rw [List.length_map, List.length_append, List.length_map] at this
    exact this.symm
end
end Ls
/-! LsV3 -/
set_option Elab.async false
set_option linter.all false
set_option maxRecDepth 100000
namespace Ls
open PySem PySem.Spec PyProof.Rows L2 Lx Ln
open Evl (Ex Ex.refl Ex.trans Ex.mut Ex.new Ev EvT EvL EvU EvA ex_l ex_t ex_rd sq_of st_of sz_of sz_lt fresh_back)
section
variable {P : Program} {wd : World} {K : PySem.W.Frag} {mg : Str → Option Value} {base : Heap} {M : Mc}
def Mc.spWay (M : Mc) : SpN := fun vs H N Q => ∃ w, vs = [.ref w, .str M.word] ∧ M.At w H ∧ (∀ H' N', Ex H H' → M.Safe → Q .non H' N') ∧
  ∀ p pvs path H' N', H p = none → Ex H H' → H' p = some (.lst pvs) → Paired (fun v lb => M.lbR lb N' v H') pvs path → M.Way path → Q (.ref p) H' N'
def Cl (M : Mc) (ss : List M.St) (ls : List M.Lb) (vis : List (M.St × Addr)) : Prop := ∀ s ∈ ss, ∀ lb ∈ ls, ∀ t r, M.out lb s = some (t, r) → M.bad t r = false ∧ t ∈ vis.map (·.1)
theorem Cl.more {ss : List M.St} {ls : List M.Lb} {vis v2 : List (M.St × Addr)} (h : Cl M ss ls vis) : Cl M ss ls (vis ++ v2) := fun s hs lb hl t r e => ⟨(h s hs lb hl t r e).1, by rw [List.map_append]; exact List.mem_append_left _ (h s hs lb hl t r e).2⟩
/-- the state that is looked at: its tuple, its way -/
structure Cur (M : Mc) (l : Addr) (vis : List (M.St × Addr)) (n N : Nat) (s : M.St) (ps as : Addr) (H : Hp) : Prop where
  hp : H ps = some (.tup (M.tv s))
  mem : (s, as) ∈ vis
  al : as ≠ l
  rch : M.Reach s
  way : ∃ pvs path, H as = some (.lst pvs) ∧ Paired (fun v lb => M.lbR lb N v H) pvs path ∧ M.run M.s0 path = some s ∧ path.length + 1 ≤ n
theorem Cur.keep (O : McOk P wd K mg base M) {d l : Addr} {vis v2 : List (M.St × Addr)} {n N N' : Nat} {s : M.St} {ps as : Addr} {H H' : Hp} {kvs : List (List Key × V)} {xs : List V} (h : Cur M l vis n N s ps as H) (hN : N ≤ N') (k : Keep2 d l H H') (hd : H d = some (.dT kvs)) (hl : H l = some (.lst xs)) : Cur M l (vis ++ v2) n N' s ps as H' := by
  obtain ⟨pvs, path, h2, h3, h4, h5⟩ := h.way
  exact ⟨(k.kp hd hl) _ _ h.hp (fun _ z => nomatch z) (fun _ z => nomatch z), List.mem_append_left _ h.mem, h.al, h.rch, pvs, path, k _ _ (fun z => by rw [z, hd] at h2; cases h2) h.al h2, Paired.mapP h3 fun _ _ r => O.lb_keep r hN (k.kp hd hl), h4, h5⟩
theorem Cur.mono (O : McOk P wd K mg base M) {d l : Addr} {vis : List (M.St × Addr)} {n N N' : Nat} {s : M.St} {ps as : Addr} {H H' : Hp} {kvs : List (List Key × V)} {xs : List V} (h : Cur M l vis n N s ps as H) (hN : N ≤ N') (e : Ex H H') (hd : H d = some (.dT kvs)) (hl : H l = some (.lst xs)) : Cur M l vis n N' s ps as H' := by
  have := h.keep (v2 := []) O hN (Keep2.of_ex (d := d) (l := l) e) hd hl
  rw [List.append_nil] at this
  exact this
set_option maxHeartbeats 2000000 in
theorem ok_way (T : Tf K mg) (O : McOk P wd K mg base M) : CalT P wd K mg base 7 "way_to_fault" M.spWay := by
  refine calT_of (Ns := ["watch", "word", "ways", "labels", "waiting", "state", "label", "pair"]) T.d_way_to_fault (by decide +kernel) (fun vs H N Q ⟨w, e, _⟩ => by rw [e]; rfl) fun f cdv A outer sh H N vs Q hr nd h => ?_
  obtain ⟨w, rfl, hA, q0, q1⟩ := h
  obtain ⟨dx, fs, hw, hl⟩ := O.ins hA
  have lb1 : fs.lookup ("begin" : Str) = none := hl _ (by simp)
  have lb2 : fs.lookup ("labels" : Str) = none := hl _ (by simp)
  have lb3 : fs.lookup ("outcome" : Str) = none := hl _ (by simp)
  have lb4 : fs.lookup ("is_fault" : Str) = none := hl _ (by simp)
  refine bn_par 2 3 (an_cons (en_xn (xn_dispT1 (kk := M.key M.s0) (S := fun y H => ∃ a, y = .ref a ∧ H a = some (.lst [])) hr (xn_meth0 (R := fun p H => H p = some (.tup (M.tv M.s0))) O.m_begin hr (x_var 0) hw lb1 fun H1 e1 Q q => ⟨w, rfl, O.at_ex hA e1, q⟩) (fun p H1 _ h => by rw [M.key_v]; exact h) (xp_n (xn_l (x_lst x_anil (by decide)))) (fun y H1 H2 e ⟨a, h1, h2⟩ => ⟨a, h1, e _ _ h2⟩) fun y H1 p u hp ⟨a, h1, h2⟩ => ⟨a, h1, by rw [upd_ne (fun z => by rw [z, hp] at h2; cases h2)]; exact h2⟩) fun d H1 d0 e1 ⟨y, hd, a0, ey, ha0⟩ => ?_))
  subst ey
  refine an_cons (en_meth0 O.m_labels hr (x_var 0) (e1 _ _ hw) lb2 fun H2 e2 => ⟨w, rfl, O.at_ex (O.at_ex hA e1) e2, fun L lvs H3 N3 L0 e3 hL lab => an_nil ⟨_, _, rfl, ?_⟩⟩)
  have hA3 : M.At w H3 := O.at_ex (O.at_ex (O.at_ex hA e1) e2) e3
  have e13 : Ex H1 H3 := e2.trans e3
  refine bn_st (b_setN 4 (xn_lstP (R := fun vs H => ∃ v r, vs = v :: r ∧ (∃ p, v = V.ref p ∧ H p = some (.tup (M.tv M.s0))) ∧ r = []) (xap_cons (xp_n (xn_meth0 (R := fun p H => H p = some (.tup (M.tv M.s0))) O.m_begin hr (x_var 0) ((e1.trans e13) _ _ hw) lb1 fun H4 e4 Q q => ⟨w, rfl, O.at_ex hA3 e4, q⟩)) (xap_e x_anil) fun v H1 H2 e ⟨p, h1, h2⟩ => ⟨p, h1, e _ _ h2⟩) (fun vs H2 ⟨v, r, e1, _, e2⟩ => by rw [e1, e2]; show 1 ≤ 100000; decide) fun vs H1 H2 e ⟨v, r, h1, ⟨p, h2, h3⟩, h4⟩ => ⟨v, r, h1, ⟨p, h2, e _ _ h3⟩, h4⟩) fun l H4 l0 e4 hlw => ?_)
  obtain ⟨_, hl4, v, r, rfl, ⟨ps, rfl, hps⟩, rfl⟩ := hlw
  have B0 : Bf M H d l L lvs [(M.s0, a0)] [(M.s0, ps)] [] N3 H4 := by
    have dd : H4 d = some (.dT [(M.key M.s0, .ref a0)]) := e4 _ _ (e13 _ _ hd)
    have da : H4 a0 = some (.lst []) := e4 _ _ (e13 _ _ ha0)
    have la : a0 ≠ l := fun z => by have := e13 _ _ ha0; rw [z, l0] at this; cases this
    have Ll : L ≠ l := fun z => by rw [z, l0] at hL; cases hL
    refine ⟨(e1.trans e13).trans e4, d0, fresh_back (e1.trans e13) l0, Ll, e4 _ _ hL, Paired.mapP lab fun _ _ r => O.lb_keep r (Nat.le_refl _) (Kp.ex e4), dd, hl4, fun q hq => ?_, fun q hq => ?_, by simp, rfl, fun q hq => ?_, by simp⟩
    · rw [List.mem_singleton.mp hq]
      exact ⟨la, [], [], da, .nil, rfl, Nat.le_refl _⟩
    · rw [List.mem_singleton.mp hq]
      exact hps
    · rw [List.mem_singleton.mp hq]
      exact .start
  have small := O.small
  refine b_nil ?_
  show bN _ _ _ _ _ _
  refine bn_while (fun m σ' H' N' => ∃ vis wait done x5 x6 x7, σ' = [some (.ref w), some (.str M.word), some (.ref d), some (.ref L), some (.ref l), x5, x6, x7] ∧ Bf M H d l L lvs vis wait done N' H' ∧ Cl M done M.labs vis ∧ m = M.uni.length - done.length) M.uni.length ⟨_, _, _, none, none, none, rfl, B0, (fun s hs => nomatch hs), rfl⟩ ?_
  rintro m σ' H5 N5 ⟨vis, wait, done, x5, x6, x7, rfl, B, C, rfl⟩
  obtain ⟨dv, dw⟩ := B.done_le O
  refine ⟨decide (wait ≠ []), t_is (t_gt (x_lenL T.b_len (x_var 4) (sq_of B.hl)) x_int) ?_, fun hb H6 e6 => ?_, fun hb H6 e6 => ?_⟩
  · cases wait with
    | nil => rfl
    | cons _ _ => simp
  · obtain ⟨q, wait, rfl⟩ : ∃ q w', wait = q :: w' := by
      cases wait with
      | nil => simp at hb
      | cons q w' => exact ⟨q, w', rfl⟩
    have B6 := B.mono O (Nat.le_refl _) e6
    refine bn_asg (en_e (e_pop0 B6.hl (x_var 4) x_int fun H7 e7 => ?_)) (pg_name (i := 5) nd rfl (.inl rfl))
    have B7 := (B6.mono O (Nat.le_refl _) e7).pop O
    obtain ⟨q', hq', eq'⟩ : ∃ q' ∈ vis, q'.1 = q.1 := by
      have : q.1 ∈ vis.map (·.1) := by rw [B6.pm]; simp
      obtain ⟨q', h1, h2⟩ := List.mem_map.mp this
      exact ⟨q', h1, h2⟩
    obtain ⟨s1, as⟩ := q'
    have eq' : s1 = q.1 := eq'
    subst eq'
    have c6 : Cur M l vis (done.length + 1) N5 q.1 q.2 as H6 := by
      obtain ⟨h1, pvs, path, h2, h3, h4, h5⟩ := B6.pa (q.1, as) hq'
      exact ⟨B6.wt q (List.mem_cons_self ..), hq', h1, B6.rc (q.1, as) hq', pvs, path, h2, h3, h4, by omega⟩
    have c7 : Cur M l vis (done.length + 1) N5 q.1 q.2 as (upd H7 l (.lst (wait.map fun q => V.ref q.2))) := by
      have := c6.keep (v2 := []) (d := d) O (Nat.le_refl _) ((Keep2.of_ex e7).trans (Keep2.ul (o := .lst (wait.map fun q => V.ref q.2)))) B6.hd B6.hl
      rw [List.append_nil] at this
      exact this
    refine bn_forL (g := gName 6) (pg_name (i := 6) nd rfl (.inl rfl)) (en_xe (x_var 3) fun H8 e8 => ⟨L, lvs, fun i σ' H' N' => ∃ vis wait' x6 x7, σ' = [some (.ref w), some (.str M.word), some (.ref d), some (.ref L), some (.ref l), some (.ref q.2), x6, x7] ∧ Bf M H d l L lvs vis wait' (done ++ [q.1]) N' H' ∧ Cl M done M.labs vis ∧ Cl M [q.1] (M.labs.take i) vis ∧ Cur M l vis (done.length + 1) N' q.1 q.2 as H', rfl, ⟨vis, wait, x6, x7, rfl, B7.mono O (Nat.le_refl _) e8, C, ?_, c7.mono O (Nat.le_refl _) e8 B7.hd B7.hl⟩, ?_, ?_, ?_⟩)
    · intro s hs lb hl
      rw [List.take_zero] at hl
      cases hl
    · rintro i σ' H' N' ⟨vis, wait', x6, x7, rfl, B, _⟩
      exact sq_of B.hL
    · rintro i x σ' H9 N9 hx ⟨vis, wait', x6, x7, rfl, B, C1, C2, c⟩
      obtain ⟨dv, dw⟩ := B.done_le O
      obtain ⟨lb, hlb, rlb⟩ := prd_at B.lab hx
      have hmem : lb ∈ M.labs := List.mem_of_getElem? hlb
      obtain ⟨pl, rfl⟩ := O.lb_ref rlb
      have tk : ∀ vis', (∀ t r, M.out lb q.1 = some (t, r) → M.bad t r = false ∧ t ∈ vis'.map (·.1)) → Cl M [q.1] (M.labs.take i) vis' → Cl M [q.1] (M.labs.take (i + 1)) vis' := fun vis' h1 h2 s hs k hk t r e => by
        rw [List.take_add_one, hlb] at hk
        rcases List.mem_append.mp hk with hk | hk
        · exact h2 s hs k hk t r e
        · have ek : k = lb := by simpa using hk
          have es : s = q.1 := by simpa using hs
          subst ek es
          exact h1 t r e
      refine bn_asg (g := gName 7) (en_meth O.m_out hr (x_var 0) (B.ex _ _ hw) lb3 fun H1 e1 => an_xa (x_acons (x_var 6) (x_acons (x_var 5) x_anil)) fun H2 e2 => ⟨w, lb, q.1, pl, q.2, rfl, O.at_ex hA (B.ex.trans (e1.trans e2)), O.lb_keep rlb (Nat.le_refl _) (Kp.ex (e1.trans e2)), (e1.trans e2) _ _ c.hp, fun v H3 N3 e3 n3 o3 => ?_⟩) (pg_name (i := 7) nd rfl (.inl rfl))
      have x3 : Ex H9 H3 := (e1.trans e2).trans e3
      have B3 := B.mono O n3 x3
      have c3 := c.mono O n3 x3 B.hd B.hl
      have r3 := O.lb_keep rlb n3 (Kp.ex x3)
      cases ho : M.out lb q.1 with
      | none =>
        rw [ho] at o3
        have ev : v = .non := o3
        subst ev
        exact bn_if (b := false) (t_is (t_notN (x_var 7) x_non) (by simp)) (fun e => nomatch e) fun _ H4 e4 => bn_nil (bn_nil ⟨vis, wait', _, _, rfl, B3.mono O (Nat.le_refl _) e4, C1, tk vis (fun t r e => by rw [ho] at e; cases e) C2, c3.mono O (Nat.le_refl _) e4 B3.hd B3.hl⟩)
      | some tr =>
        obtain ⟨t, r⟩ := tr
        rw [ho] at o3
        obtain ⟨p, aq, rfl, hp, haq⟩ := o3
        refine bn_if (b := true) (t_is (t_notN (x_var 7) x_non) (by simp)) (fun _ H4 e4 => ?_) (fun e => nomatch e)
        refine bn_if (b := M.bad t r) (t_val (x_meth O.m_fault hr (x_var 0) ((B3.ex.trans e4) _ _ hw) lb4 (x_acons (x_var 1) (x_acons (x_ixT (x_var 7) x_int (st_of (e4 _ _ hp)) rfl) (x_acons (x_ixT (x_var 7) x_int (st_of (e4 _ _ hp)) rfl) x_anil))) fun H5 e5 Q qq => ⟨w, t, r, aq, rfl, O.at_ex hA ((B3.ex.trans e4).trans e5), (e4.trans e5) _ _ haq, qq⟩)) (fun hb H5 e5 => ?_) (fun hb H5 e5 => bn_nil ?_)
        · obtain ⟨pvs, path, h1, h2, h3, h4⟩ := c3.way
          have x5 := e4.trans e5
          have B5 := B3.mono O (Nat.le_refl _) x5
          have g : DGet H5 d (.ref q.2) (some (.ref as)) := by
            have := get_t (k := M.key q.1) (.inl B5.hd : Rd H5 d _) (by rw [M.key_v]; exact x5 _ _ c3.hp)
            rw [vis_at O c3.mem B5.nd] at this
            exact this
          have pl2 := paired_len h2
          rw [List.length_append, List.length_singleton] at dw
          refine bn_ret (en_xn (xn_l (x_lst (x_starS (x_dget hr (x_var 2) (x_var 5) g) (.inr (sq_of (x5 _ _ h1))) (x_acons (x_var 6) x_anil)) (by rw [List.length_append, List.length_singleton]; omega))) fun pR H6 hp6 e6 hr6 => q1 pR _ (path ++ [lb]) H6 N3 (fresh_back B5.ex hp6) (B5.ex.trans e6) hr6 (paired_snoc (Paired.mapP h2 fun _ _ z => O.lb_keep z (Nat.le_refl _) (Kp.ex (x5.trans e6))) (O.lb_keep r3 (Nat.le_refl _) (Kp.ex (x5.trans e6)))) ⟨path, lb, q.1, t, r, rfl, h3, ho, hb, c3.rch, hmem, by rw [List.length_append, List.length_singleton]; omega⟩)
        · have x5 := e4.trans e5
          have B5 := B3.mono O (Nat.le_refl _) x5
          have c5 := c3.mono O (Nat.le_refl _) x5 B3.hd B3.hl
          have hp5 := x5 _ _ hp
          have haq5 := x5 _ _ haq
          have r5 := O.lb_keep r3 (Nat.le_refl _) (Kp.ex x5)
          refine bn_if (b := !(valV (vis.map fun q => (M.key q.1, V.ref q.2)) (M.key t)).isSome) (t_niD hr (x_ixT (x_var 7) x_int (st_of hp5) rfl) (x_var 2) (get_t (.inl B5.hd) (by rw [M.key_v]; exact haq5))) (fun hb2 H6 e6 => ?_) fun hb2 H6 e6 => bn_nil (bn_nil (bn_nil ⟨vis, wait', _, _, rfl, B5.mono O (Nat.le_refl _) e6, C1, tk vis (fun t' r' e => ?_) C2, c5.mono O (Nat.le_refl _) e6 B5.hd B5.hl⟩))
          · have nt : t ∉ vis.map (·.1) := fun z => by
              rw [vis_some O z B5.nd] at hb2
              cases hb2
            have B6 := B5.mono O (Nat.le_refl _) e6
            have c6 := c5.mono O (Nat.le_refl _) e6 B5.hd B5.hl
            obtain ⟨pvs, path, h1, h2, h3, h4⟩ := c6.way
            have pl2 := paired_len h2
            have g : DGet H6 d (.ref q.2) (some (.ref as)) := by
              have := get_t (k := M.key q.1) (.inl B6.hd : Rd H6 d _) (by rw [M.key_v]; exact c6.hp)
              rw [vis_at O c6.mem B6.nd] at this
              exact this
            rw [List.length_append, List.length_singleton] at dw
            refine bn_st (b_dputN (H4 := fun p H => upd H d (.dT (putK (vis.map fun q => (M.key q.1, V.ref q.2)) (M.key t) (.ref p)))) hr (xn_l (x_lst (x_starS (x_dget hr (x_var 2) (x_var 5) g) (.inr (sq_of h1)) (x_acons (x_var 6) x_anil)) (by rw [List.length_append, List.length_singleton]; omega))) (x_var 2) (x_ixT (x_var 7) x_int (st_of (e6 _ _ hp5)) rfl) (fun ap H7 hp7 e7 hr7 => ⟨DPut.t (e7 _ _ B6.hd) (by rw [M.key_v]; exact e7 _ _ (e6 _ _ haq5)) (sz_lt (by rw [List.length_map]; omega)), b_nil ?_⟩) fun v H1 H2 e z => e _ _ z)
            have dl : d ≠ l := fun z => by have := B6.hd; rw [z, B6.hl] at this; cases this
            have pd : p ≠ d := fun z => by have := e6 _ _ hp5; rw [z, B6.hd] at this; cases this
            refine bn_st (b_app (xs := wait'.map fun q => V.ref q.2) (by rw [upd_ne (Ne.symm dl)]; exact e7 _ _ B6.hl) (x_var 4) (x_ixT (x_var 7) x_int (st_of (by rw [upd_ne pd]; exact e7 _ _ (e6 _ _ hp5))) rfl) (by rw [List.length_map]; omega) fun H8 e8 => b_nil (bn_nil (bn_nil (bn_nil ?_))))
            rw [putK_new _ (vis_none O nt)] at e8
            have B8 := B6.push O (t := t) (ap := ap) (aq := aq) (pvs := pvs ++ [.ref pl]) (path := path ++ [lb]) e7 hp7 hr7 (paired_snoc h2 (O.lb_keep r5 (Nat.le_refl _) (Kp.ex e6))) (M.run_snoc h3 ho) (by rw [List.length_append, List.length_append, List.length_singleton, List.length_singleton]; omega) (e6 _ _ haq5) nt (.step c6.rch hmem ho) (H2 := H8) (by rw [List.map_append]; exact e8)
            have kk : Keep2 d l H6 (upd H8 l (.lst ((wait' ++ [(t, aq)]).map fun q => V.ref q.2))) := ((Keep2.of_ex e7).trans Keep2.ud).trans ((Keep2.of_ex e8).trans Keep2.ul)
            refine ⟨vis ++ [(t, ap)], wait' ++ [(t, aq)], _, _, rfl, ?_, C1.more, tk _ (fun t' r' e => ?_) C2.more, ?_⟩
            · rw [List.map_append] at B8
              exact B8
            · rw [ho] at e
              cases e
              exact ⟨hb, by rw [List.map_append]; exact List.mem_append_right _ (List.mem_singleton.mpr rfl)⟩
            · have := c6.keep (v2 := [(t, ap)]) O (Nat.le_refl _) kk B6.hd B6.hl
              rw [List.map_append] at this
              exact this
          · rw [ho] at e
            cases e
            refine ⟨hb, Classical.byContradiction fun z => ?_⟩
            rw [vis_none O z] at hb2
            cases hb2
    · rintro σ' H9 N9 ⟨vis, wait', x6, x7, rfl, B, C1, C2, c⟩
      refine bn_nil ⟨M.uni.length - (done ++ [q.1]).length, ?_, vis, wait', done ++ [q.1], _, _, _, rfl, B, ?_, rfl⟩
      · rw [List.length_append, List.length_singleton]
        rw [List.length_cons] at dw
        omega
      · intro s hs
        rcases List.mem_append.mp hs with hs | hs
        · exact C1 s hs
        · have e := paired_len B.lab
          rw [e, List.take_length] at C2
          exact C2 s hs
  · have hw : wait = [] := by
      cases wait with
      | nil => rfl
      | cons _ _ => simp at hb
    subst hw
    have B6 := B.mono O (Nat.le_refl _) e6
    have e0 : vis.map (·.1) = done := by rw [B6.pm, List.map_nil, List.append_nil]
    refine bn_b (XS.run (s_ret x_non fun H7 e7 => q0 H7 _ (B6.ex.trans e7) (M.safe_of (done := done) (by rw [← e0]; exact B6.s0) fun s hs lb hl t r e => ?_)))
    have := C s hs lb hl t r e
    rw [e0] at this
    exact this
end
end Ls
/-! LsV4 -/
set_option Elab.async false
set_option linter.all false
set_option maxRecDepth 100000
namespace Ls
open PySem PySem.Spec PyProof.Rows L2 Lx Ln
open Evl (Ex Ex.refl Ex.trans Ex.mut Ex.new Ev EvT EvL EvU EvA ex_l ex_t ex_rd sq_of st_of sz_of sz_lt fresh_back)
open Lsm (X5 O3 Y4 L10 Le Wr Lb Qn Cf)
section
variable {P : Program} {wd : World} {K : PySem.W.Frag} {mg : Str → Option Value} {base : Heap}
theorem met_imp {k k' : Nat} {C : Addr} {m : Str} {sp sp' : Sp} (h : C8.Met P wd K mg base k C m sp []) (i : ∀ vs H Q E, sp' vs H Q E → sp vs H Q E) (hk : k ≤ k' := by decide) : C8.Met P wd K mg base k' C m sp' [] := by
  obtain ⟨f, fd, ps, ds, c, me, F, b, v⟩ := h.ex
  exact ⟨f, fd, ps, ds, c, me, (F.mono hk).imp i, b, v⟩
theorem metT_imp {k k' : Nat} {C : Addr} {m : Str} {sp sp' : SpN} (h : MetT P wd K mg base k C m sp) (i : ∀ vs H N Q, sp' vs H N Q → sp vs H N Q) (hk : k ≤ k' := by decide) : MetT P wd K mg base k' C m sp' := by
  obtain ⟨f, fd, ps, c, me, F, b⟩ := h.ex
  exact ⟨f, fd, ps, c, me, (F.room hk).imp i, b⟩
theorem LabC.kp {N N' : Nat} {w c : Str} {v : V} {H H' : Hp} (h : LabC N w c v H) (hn : N ≤ N') (k : Kp H H') : LabC N' w c v H' := by
  obtain ⟨p, o, uw, t, h1, h2, h3, h4, h5, h6⟩ := h
  exact ⟨p, o, uw, t, h1, k _ _ h2 (fun _ z => nomatch z) (fun _ z => nomatch z), h3, h4, h5, Nat.lt_of_lt_of_le h6 hn⟩
theorem TupR.kp {ts : List Str} {v : V} {H H' : Hp} (h : TupR ts v H) (k : Kp H H') : TupR ts v H' := by
  obtain ⟨p, h1, h2⟩ := h
  exact ⟨p, h1, k _ _ h2 (fun _ z => nomatch z) (fun _ z => nomatch z)⟩
theorem LbR.kp {f : Bool} {lb : Lb} {N N' : Nat} {v : V} {H H' : Hp} (h : LbR f lb N v H) (hn : N ≤ N') (k : Kp H H') : LbR f lb N' v H' := by
  cases lb <;> first | exact TupR.kp h k | exact LabC.kp h hn k
theorem LkR.kp {lb : LbK} {N N' : Nat} {v : V} {H H' : Hp} (h : LkR lb N v H) (hn : N ≤ N') (k : Kp H H') : LkR lb N' v H' := by
  cases lb <;> first | exact TupR.kp h k | exact LabC.kp h hn k
theorem LkR.ref {lb : LbK} {N : Nat} {v : V} {H : Hp} (h : LkR lb N v H) : ∃ p, v = .ref p := by
  cases lb <;> first | exact (let ⟨p, e, _⟩ := h; ⟨p, e⟩) | exact (let ⟨p, _, _, _, e, _⟩ := h; ⟨p, e⟩)
/-! ### the watch of a column -/
def allS : List Lsm.S := Lsm.allX.flatMap fun x => Lsm.allO.flatMap fun o => Lsm.allY.flatMap fun y => [false, true].flatMap fun z => Lsm.allL.map fun l => ⟨x, o, y, z, l⟩
theorem all_s (s : Lsm.S) : s ∈ allS := by
  unfold allS
  refine List.mem_flatMap.mpr ⟨s.x, Lsm.all_x _, List.mem_flatMap.mpr ⟨s.p, Lsm.all_o _, List.mem_flatMap.mpr ⟨s.y, Lsm.all_y _, List.mem_flatMap.mpr ⟨s.z, Lsm.all_z _, List.mem_map.mpr ⟨s.l, Lsm.all_l _, rfl⟩⟩⟩⟩⟩
theorem xS_inj {a b : X5} (h : xS a = xS b) : a = b := by cases a <;> cases b <;> first | rfl | exact absurd h (by decide)
theorem oS_inj {a b : O3} (h : oS a = oS b) : a = b := by cases a <;> cases b <;> first | rfl | exact absurd h (by decide)
theorem yS_inj {a b : Y4} (h : yS a = yS b) : a = b := by cases a <;> cases b <;> first | rfl | exact absurd h (by decide)
theorem zS_inj {a b : Bool} (h : zS a = zS b) : a = b := by cases a <;> cases b <;> first | rfl | exact absurd h (by decide)
theorem lS_inj {f : Bool} {a b : L10} (h : lS f a = lS f b) : a = b := by cases f <;> cases a <;> cases b <;> first | rfl | exact absurd h (by decide)
def TxOk (y : Str) : Prop := y.length ≤ 10 ∧ ∀ c ∈ y.cps.toList, c < 16 ^ 8
theorem xS_ok (a : X5) : TxOk (xS a) := by unfold TxOk; cases a <;> decide +kernel
theorem oS_ok (a : O3) : TxOk (oS a) := by unfold TxOk; cases a <;> decide +kernel
theorem yS_ok (a : Y4) : TxOk (yS a) := by unfold TxOk; cases a <;> decide +kernel
theorem zS_ok (a : Bool) : TxOk (zS a) := by unfold TxOk; cases a <;> decide +kernel
theorem lS_ok (f : Bool) (a : L10) : TxOk (lS f a) := by unfold TxOk; cases f <;> cases a <;> decide +kernel
def colM (K : PySem.W.Frag) (W : Wd) (x : Wx) (n : Qn) : Mc where
  St := Lsm.S
  Lb := Lb
  Wr := Wr
  dec := inferInstance
  s0 := Lsm.s0
  uni := allS
  labs := Lsm.allLb
  out := Lsm.out (cfg W x)
  bad := badW x.c.fall n
  tx := fun s => [xS s.x, oS s.p, yS s.y, zS s.z, lS x.c.fall s.l]
  wt := wS
  lbR := LbR x.c.fall
  C := cW K
  word := qS x.c.fall n
  At := fun w H => CwAt K H w W x
theorem s0_v (f : Bool) : stV true Lsm.s0 = stV f Lsm.s0 := by cases f <;> rfl
theorem colM_ok (T : Tf K mg) (W : Wd) (x : Wx) (n : Qn) : McOk P wd K mg base (colM K W x n) where
  inj := fun s t h => by
    have h : [xS s.x, oS s.p, yS s.y, zS s.z, lS x.c.fall s.l] = [xS t.x, oS t.p, yS t.y, zS t.z, lS x.c.fall t.l] := h
    obtain ⟨h1, h⟩ := List.cons.inj h
    obtain ⟨h2, h⟩ := List.cons.inj h
    obtain ⟨h3, h⟩ := List.cons.inj h
    obtain ⟨h4, h⟩ := List.cons.inj h
    obtain ⟨h5, _⟩ := List.cons.inj h
    cases s
    cases t
    cases xS_inj h1
    cases oS_inj h2
    cases yS_inj h3
    cases zS_inj h4
    cases lS_inj h5
    rfl
  all := all_s
  small := by show allS.length ≤ 2000; decide +kernel
  few := by show Lsm.allLb.length ≤ 100; decide
  short := fun s => ⟨Nat.le_refl _, fun y hy => by
    have hy : y ∈ [xS s.x, oS s.p, yS s.y, zS s.z, lS x.c.fall s.l] := hy
    simp only [List.mem_cons, List.mem_nil_iff, or_false] at hy
    rcases hy with rfl | rfl | rfl | rfl | rfl
    · exact xS_ok _
    · exact oS_ok _
    · exact yS_ok _
    · exact zS_ok _
    · exact lS_ok _ _⟩
  lb_keep := fun h hn k => LbR.kp h hn k
  lb_ref := fun h => LbR.ref h
  at_ex := fun h e => CwAt.mono h e
  ins := fun h => ⟨_, _, CwAt.wa h |>.hw, fun m hm => (CwAt.wa h).ln m (by revert hm; revert m; decide)⟩
  m_begin := met_imp (ok_begin T) fun vs H Q E ⟨w, e, _, q⟩ => ⟨w, e, fun p H' p0 e1 h => q p H' p0 e1 (by rw [h, s0_v x.c.fall] <;> rfl)⟩
  m_labels := metT_imp (ok_labels T) fun vs H N Q ⟨w, e, h, q⟩ => ⟨w, W, x, e, h, q⟩
  m_out := metT_imp (ok_out T) fun vs H N Q ⟨w, lb, s, l, p, e, h, hl, hp, q⟩ => ⟨w, W, x, lb, s, l, p, e, h, hl, hp, fun v H' N' e1 n1 r => q v H' N' e1 n1 (by
    show Mc.outR (colM K W x n) (Lsm.out (cfg W x) lb s) v H'
    revert r
    cases Lsm.out (cfg W x) lb s with
    | none => exact id
    | some tr => exact id)⟩
  m_fault := met_imp (ok_fault T) fun vs H Q E ⟨w, s, r, p, e, h, hp, q⟩ => ⟨w, W, x, n, p, s, r, e, h, hp, q⟩
/-! ### the watch of a kind -/
def allKS : List KS := Lsm.allY.flatMap fun y => [L3.e, .x, .xx].map fun l => ⟨y, l⟩
theorem all_ks (s : KS) : s ∈ allKS := by
  unfold allKS
  refine List.mem_flatMap.mpr ⟨s.y, Lsm.all_y _, List.mem_map.mpr ⟨s.l, ?_, rfl⟩⟩
  cases s.l <;> decide
theorem l3_inj {a b : L3} (h : lS true a.l = lS true b.l) : a = b := by cases a <;> cases b <;> first | rfl | exact absurd h (by decide)
def kindM (K : PySem.W.Frag) (W : Wd) : Mc where
  St := KS
  Lb := LbK
  Wr := Bool
  dec := inferInstance
  s0 := s0K
  uni := allKS
  labs := allLk
  out := outK (cfK W)
  bad := fun _ r => r
  tx := fun s => [yS s.y, lS true s.l.l]
  wt := uS
  lbR := LkR
  C := cK K
  word := "undue"
  At := fun w H => WAt K (cK K) H w W ∧ W.sorts = "X"
theorem kindM_ok (T : Tf K mg) (W : Wd) : McOk P wd K mg base (kindM K W) where
  inj := fun s t h => by
    have h : [yS s.y, lS true s.l.l] = [yS t.y, lS true t.l.l] := h
    obtain ⟨h1, h⟩ := List.cons.inj h
    obtain ⟨h2, _⟩ := List.cons.inj h
    cases s
    cases t
    cases yS_inj h1
    cases l3_inj h2
    rfl
  all := all_ks
  small := by show allKS.length ≤ 2000; decide +kernel
  few := by show allLk.length ≤ 100; decide
  short := fun s => ⟨by show 2 ≤ 5; decide, fun y hy => by
    have hy : y ∈ [yS s.y, lS true s.l.l] := hy
    simp only [List.mem_cons, List.mem_nil_iff, or_false] at hy
    rcases hy with rfl | rfl
    · exact yS_ok _
    · exact lS_ok _ _⟩
  lb_keep := fun h hn k => LkR.kp h hn k
  lb_ref := fun h => LkR.ref h
  at_ex := fun h e => ⟨WAt.mono h.1 e, h.2⟩
  ins := fun h => ⟨_, _, h.1.hw, fun m hm => h.1.ln m (by revert hm; revert m; decide)⟩
  m_begin := met_imp (ok_beginK T) fun vs H Q E ⟨w, e, _, q⟩ => ⟨w, e, q⟩
  m_labels := metT_imp (ok_labelsK T) fun vs H N Q ⟨w, e, h, q⟩ => ⟨w, W, e, h.1, h.2, q⟩
  m_out := metT_imp (ok_outK T) fun vs H N Q ⟨w, lb, s, l, p, e, h, hl, hp, q⟩ => ⟨w, W, lb, s, l, p, e, h.1, hl, hp, fun v H' N' e1 n1 r => q v H' N' e1 n1 (by
    show Mc.outR (kindM K W) (outK (cfK W) lb s) v H'
    revert r
    cases outK (cfK W) lb s with
    | none => exact id
    | some tr => exact id)⟩
  m_fault := met_imp (ok_faultK T) fun vs H Q E ⟨w, s, r, p, e, h, hp, q⟩ => ⟨w, p, r, e, q⟩
end
end Ls
/-! LsS3 -/
set_option Elab.async false
set_option linter.all false
set_option maxRecDepth 100000
/-! sorted(xs, key=f), f's calls give texts: which ones, is not told. -/
namespace Lsq
open PySem PySem.W PySem.Calls PyProof.Rows
section
variable {prog : Program} {w : World} {A : Around} {E : Value → Shared → Prop} {s : Shared}
/-- a call that keeps all and gives some text -/
def TextPure (s1 : Shared) (v : Value) (s2 : Shared) : Prop := ∃ m : Str, KeyPure (.str m) s1 v s2
def Texts (h : Heap) (us : List Value) : Prop := ∃ ms : List Str, EachIs (fun v m => Reads h v (.str m) []) us ms
theorem each_map {α β γ : Type} {R : α → γ → Prop} {f : β → γ} : ∀ {xs : List α} {ys : List β}, EachIs (fun x y => R x (f y)) xs ys → EachIs R xs (ys.map f)
  | _, _, .nil => .nil
  | _, _, .cons h t => .cons h (each_map t)
theorem texts_rest {f : Value} {h1 : Heap} {a kS : Addr} {e1 : Nat} {vs : List Value} {P : PySem.Fin → Shared → Prop}
    (kp : KeepsBut a h1 s.heap) (nw : h1.get? kS = none) (nk : s.heap.get? kS = some (seqObj "list" #[] 0)) (na : s.heap.get? a = some (seqObj "list" #[] e1)) (ne : kS ≠ a) (hz : vs.length ≤ sizeLine) (hu : A.units < cLine)
    (turn : ∀ v ∈ vs, ∀ (h : Heap) (tk : Nat), KeepsBut a h1 h → wpAny (model prog w) A (call f [v]) (TextPure { s with heap := h, toks := tk }) (fun _ _ => False) { s with heap := h, toks := tk })
    (fin : ∀ h' tk out c, KeepsBut a h1 h' → h'.get? a = some (seqObj "list" (List.toArray out) c) → P (.done (.ret .none)) { s with heap := h', toks := tk }) :
    wpAny (model prog w) A (ksk_rest a f false vs.toArray e1 (.ref kS)) P E s := by
  unfold ksk_rest
  refine wpAny_bind (wpAny_rule ?_)
  first | rw [List.forIn_toArray] | rw [← Array.forIn_toList]
  refine wpAny_bind (ksk_fold (fun i s' => ∃ g tk ka e, s' = { s with heap := g, toks := tk } ∧ KeepsBut a h1 g ∧ g.get? kS = some (seqObj "list" ka e) ∧ g.get? a = some (seqObj "list" #[] e1) ∧ ka.size = i ∧ Texts g ka.toList) vs 0 s ⟨s.heap, s.toks, #[], 0, rfl, kp, nk, na, rfl, [], .nil⟩ ?_ ?_)
  · rintro j x s' hx ⟨g, tk, ka, e, rfl, kg, kk, ke, hs, ms, ht⟩
    simp only [Nat.zero_add] at hs ⊢
    have hj : j < vs.length := (List.getElem?_eq_some_iff.mp hx).1
    refine wpAny_bind (wpAny_attempt (wpAny_mono (turn x (List.mem_of_getElem? hx) g tk kg) (fun v s2 ⟨m, g2, tk2, es, hk, hr⟩ => ?_) fun _ _ z => z.elim))
    subst es
    try dsimp only
    have kk2 := hk _ _ kk
    have ke2 := hk _ _ ke
    have sb := Heap.SameBut.update g2 kS (Obj.mapSeq (·.push v))
    obtain ⟨c2, hc2⟩ : ∃ c2, (g2.update kS (Obj.mapSeq (·.push v))).get? kS = some (seqObj "list" (ka.push v) c2) := ⟨_, get?_update_seq kk2 (·.push v)⟩
    have zk : ka.size ≤ sizeLine := by omega
    refine wpAny_bind (listUpdate_at kk2 rfl ?_ zk (by rw [Array.size_push]; omega))
    have go : ∀ (u : Value) (m : Str), Reads g2 u (.str m) [] → Reads (g2.update kS (Obj.mapSeq (·.push v))) u (.str m) [] := fun u m q =>
      Reads.keepBut (a := kS) (fun b o hb e => (sb.2 b hb).trans e) (fun o e => by rw [kk2] at e; rw [← Option.some.inj e]) (.str m) u [] (by simp [alike]) q (by simp)
    refine wpAny_pure ⟨rfl, _, _, ka.push v, c2, rfl, (kg.trans_all hk).same sb (.inr nw), hc2, (sb.2 a (Ne.symm ne)).trans ke2, by rw [Array.size_push, hs], ms ++ [m], ?_⟩
    rw [show (ka.push v).toList = ka.toList ++ [v] by simp]
    exact each_snoc (R := fun (u : Value) (d : Str) => Reads (g2.update kS (Obj.mapSeq (·.push v))) u (.str d) []) (go v m hr) (ht.mono fun u d q => go u d (PyProof.Rows.Reads.keeps hk q))
  · rintro s' ⟨g, tk, ka, e, rfl, kg, kk, ke, hs, ms, ht⟩
    have hs : ka.size = vs.length := by omega
    refine wpAny_bind (listItems_at kk rfl ?_)
    have ed : EachIs (fun v d => ∃ as, Reads g v d as) ka.toList (ms.map PyData.str) := each_map (ht.mono fun _ _ q => ⟨[], q⟩)
    refine keyH_end (b := false) (κ := dataKind g (ms.map PyData.str)) (h₁ := h1) kg nw kk ke ne (SortsAt.data (s := { s with heap := g, toks := tk }) ed (AllAlike.of fun _ _ => by simp [alike]) (Sortable.others fun _ => ⟨by simp, by simp⟩) fun d hd => ?_) hs hz fun h3 tk3 c k3 n3 => fin h3 tk3 _ c k3 n3
    obtain ⟨m, _, rfl⟩ := List.mem_map.mp hd
    simpa [PyData.depth] using hu
theorem texts_tree {f : Value} {a : Addr} {n : Nat} {vs : List Value} {P : PySem.Fin → Shared → Prop} (ho : s.heap.get? a = some (seqObj "list" vs.toArray n)) (hz : vs.length ≤ sizeLine) (hu : A.units < cLine)
    (turn : ∀ v ∈ vs, ∀ (h : Heap) (tk : Nat), KeepsBut a s.heap h → wpAny (model prog w) A (call f [v]) (TextPure { s with heap := h, toks := tk }) (fun _ _ => False) { s with heap := h, toks := tk })
    (fin : ∀ h' tk out c, KeepsBut a s.heap h' → h'.get? a = some (seqObj "list" (List.toArray out) c) → P (.done (.ret .none)) { s with heap := h', toks := tk }) :
    wpAny (model prog w) A (ksk_tree a f false) P E s := by
  have al : a < s.heap.objs.size := Heap.lt_size ho
  obtain ⟨e1, ho1⟩ : ∃ e1, (s.heap.update a (Obj.mapSeq fun _ => (#[] : Array Value))).get? a = some (seqObj "list" #[] e1) := ⟨_, get?_update_seq ho fun _ => #[]⟩
  have zz : ((s.heap.update a (Obj.mapSeq fun _ => (#[] : Array Value))).push (seqObj "tuple" vs.toArray 0)).objs.size = s.heap.objs.size + 1 := by rw [size_push', Heap.size_update]
  unfold ksk_tree
  refine wpAny_bind (listItems_at ho rfl (wpAny_bind (listUpdate_at ho rfl (wpAny_bind (seqEpoch_at ho1 rfl (wpAny_bind (wpAny_newTuple (wpAny_bind (wpAny_newList (wpAny_holding ?_) (Nat.zero_le _))) (by show vs.length ≤ _; exact hz))))) (by rw [List.size_toArray]; exact hz) (Nat.zero_le _))))
  refine texts_rest (h1 := s.heap) (s := { s with heap := ((s.heap.update a (Obj.mapSeq fun _ => (#[] : Array Value))).push (seqObj "tuple" vs.toArray 0)).push (seqObj "list" #[] 0) }) (kS := ((s.heap.update a (Obj.mapSeq fun _ => (#[] : Array Value))).push (seqObj "tuple" vs.toArray 0)).objs.size) (fun b o hb q => sortingHeap_old hb q) (Heap.get?_none_of_le (by rw [zz]; exact Nat.le_succ _)) (Heap.get?_push_size _ rfl) (Heap.get?_push_of_some _ (Heap.get?_push_of_some _ ho1)) (by rw [zz]; exact Nat.ne_of_gt (Nat.lt_succ_of_lt al)) hz hu turn fin
theorem sorted_texts {l fa : Addr} {vs : List Value} {Q : Value → Shared → Prop} (hl : s.heap.IsList l vs.toArray) (hz : vs.length ≤ sizeLine) (hu : A.units + 2 < cLine)
    (turn : ∀ v ∈ vs, ∀ (h : Heap) (tk : Nat), (∀ b o, s.heap.get? b = some o → h.get? b = some o) → wpAny (model prog w) A.in1.in1 (call (.ref fa) [v]) (TextPure { s with heap := h, toks := tk }) (fun _ _ => False) { s with heap := h, toks := tk })
    (fin : ∀ r h' tk, (∀ b o, s.heap.get? b = some o → h'.get? b = some o) → Q (.ref r) { s with heap := h', toks := tk }) :
    wpAny (model prog w) A (call (.builtin "sorted") [.ref l] [(Str.ofString "key", .ref fa)]) Q E s := by
  have up : ∀ {g : Heap}, KeepsBut (s.heap.objs.size + 1) (copyHeap s.heap vs) g → ∀ b o, s.heap.get? b = some o → g.get? b = some o := fun {g} kp b o q => kp b o (Nat.ne_of_lt (Nat.lt_succ_of_lt (Heap.lt_size q))) (copyHeap_old q)
  refine sorted_of_sort hl hz (ksk_s1 _ _) (fun _ => ksk_l1 _ _) fun E' => ?_
  rw [ksk_t1]
  exact texts_tree (s := { s with heap := copyHeap s.heap vs }) (copyHeap_at s.heap vs) hz hu (fun v hv h tk kp => turn v hv h tk (up kp)) fun h' tk out c kp hD => ⟨rfl, fin _ h' tk (up kp)⟩
/-- str(t), t a tuple of texts: some text -/
theorem str_tuple {a : Addr} {o : Obj} {items : Array Value} {n : Nat} {ts : List Str} {Q : Value → Shared → Prop} (hu : A.units + 6 < cLine) (ha : s.heap.get? a = some o) (hc : o.cls = .type "tuple") (hd : o.data = .seq items n) (hT : ∀ (prog : Program) (w : World), ReprAll prog w items.toList ts) (hsz : (tupleText ts).length ≤ sizeLine)
    (h : ∀ (m : Str) (u tk : Tok), Q (.str m u) { s with toks := tk }) : wpAny (model prog w) A (call (.type "str") [.ref a]) Q E s :=
  callType_new F.called_str (by decide) (F.typeCall_str_1 _) (F.newCall_str_1 _) (fun obj => F.args_object_init_2 obj _) F.entry_str_new
    (meets_str_new (S := fun A' R s' => A'.units + 5 < cLine ∧ s'.heap.get? a = some o ∧ ∀ (m : Str) (u tk : Tok), R (.ok (.ret (.str m u))) { s' with toks := tk }) fun prog' w' A' R s' h =>
      wpAny_strOf_slot rfl (by show A'.units + 1 + 1 < cLine; have := h.1; omega) ⟨o, h.2.1, hc⟩ F.slot_tuple_str F.slot_tuple_repr (fmt_tuple_repr h.2.1 hc hd (hT _ _) hsz fun m u tk _ => ⟨m, u, rfl, h.2.2 m u tk⟩))
    ⟨by show A.units + 1 + 5 < cLine; omega, ha, fun m u tk => ⟨typeIs_str _ _ _, h m u tk⟩⟩
end
end Lsq
/-! LsS4 -/
set_option Elab.async false
set_option linter.all false
set_option maxRecDepth 100000
/-! lambda state: str(state), called on a tuple of texts -/
namespace Lsq
open PySem PySem.W PySem.Calls PyProof.Rows
section
variable {prog : Program} {w : World} {A : Around} {s : Shared}
def LR (s : Shared) (r : Result) (s2 : Shared) : Prop := ∃ (m : Str) (u : Tok) (h' : Heap) (tk : Nat), r = .ok (.ret (.str m u)) ∧ s2 = { s with heap := h', toks := tk } ∧ ∀ b o, s.heap.get? b = some o → h'.get? b = some o
theorem lam_str {x qual : Str} {params : Arguments} {scope : Scope} {pm ctv : Value} {c' f a : Addr} {p1 p2 pos : Pos} {mg mb : Str → Option Value} {o : Obj} {items : Array Value} {n : Nat} {ts : List Str}
    (hd : A.depth < recursionLimit) (hu : A.units + 20 < cLine) (hf : s.heap.get? f = some (kla_obj "<lambda>" qual params (.Call (.Name "str" p1) [.Name x p2] [] pos) scope [] pm c' ctv)) (hc : s.heap.CodeRec (.ref c') qual)
    (hk : scope.kind = .function) (hco : scope.isCoroutine = false) (hgen : scope.isGenerator = false) (hx : scope.names.lookup x = some .local) (hs : scope.names.lookup ("str" : Str) = some .globalImplicit) (hcell : ∀ y ∈ scope.names, y.2 ≠ .cell)
    (hbind : bindArgs (kla_fn "<lambda>" qual params (.Call (.Name "str" p1) [.Name x p2] [] pos) scope [] pm (.ref c') ctv) ⟨[.ref a], []⟩ = pure [(x, .ref a)])
    (hg : s.heap.Ns mainGlobals mg) (hm : mg "str" = none) (hb : s.heap.Ns builtinsNs mb) (hmb : mb "str" = some (.type "str")) (lim : s.heap.NoLimit) (dx : (x == ("__debug__" : Str)) = false)
    (ha : s.heap.get? a = some o) (ho : o.cls = .type "tuple") (hdt : o.data = .seq items n) (hT : ∀ (prog : Program) (w : World), ReprAll prog w items.toList ts) (hsz : (tupleText ts).length ≤ sizeLine) :
    wpAny (model prog w) A (call (.ref f) [.ref a]) (TextPure s) (fun _ _ => False) s := by
  have rc : codeAny (model prog w) A (.call (.ref f) ⟨[.ref a], []⟩) (LR s) s := by
    refine kla_callFunE hd hf rfl hco hgen rfl hc ?_
    rw [hbind]
    refine wpAny_pure (wpAny_newFunctionEnv hcell (fun y hy => by rw [List.mem_singleton.mp hy]; exact hx) (fun h1 hns hsb => ⟨lim.fresh _ hsb, ?_⟩) hk)
    have kp : ∀ b o, s.heap.get? b = some o → h1.get? b = some o := fun b o e => hsb.extBut b o (Nat.ne_of_lt (Heap.lt_size e)) (Heap.get?_push_of_some _ e)
    refine kla_codeExpr ?_
    refine wpAny_Call_Name_kw (Calls.Name_function_global hk hs (Calls.loadGlobal_builtin (hg.keeps kp) hm (hb.keeps kp) hmb ?_) (by decide))
    refine PyProof.Rows.callWith_type1 (Calls.spliced_cons (wpAny_Name (wpAny_loadName_local (v := .ref a) hk hx hns (by simp) (Calls.spliced_nil ?_)) dx)) (by rfl) (by rfl)
    refine str_tuple (by show A.units + 3 + 6 < cLine; omega) (kp _ _ ha) ho hdt hT hsz fun m u tk => ⟨m, u, h1, tk, rfl, rfl, kp⟩
  refine wpAny_call (codeAny_mono rc fun r s2 hq => ?_)
  obtain ⟨m, u, h', tk, rfl, rfl, k⟩ := hq
  exact ⟨m, h', tk, rfl, k, by constructor⟩
end
end Lsq
/-! LsS5 -/
set_option Elab.async false
set_option linter.all false
set_option maxRecDepth 100000
namespace Lx
open PySem PySem.Spec PyProof.Rows L2 Evl
/-- a tuple of short texts -/
def ShortT (H : Hp) (b : Addr) : Prop := ∃ ts : List Str, H b = some (.tup (ts.map V.str)) ∧ fmtCost ts + 7 ≤ sizeLine ∧ ∀ y ∈ ts, ∀ c ∈ y.cps.toList, c < 16 ^ 8
theorem vals_refs : ∀ {bs : List Addr} {its : List Value} {v : Value}, Vals (bs.map V.ref) its → v ∈ its → ∃ b ∈ bs, v = .ref b
  | [], _, _, r, h => by cases r; cases h
  | b :: bs, _, v, r, h => by
    cases r with
    | cons r1 r2 =>
      rcases List.mem_cons.mp h with e | h
      · exact ⟨b, List.mem_cons_self .., by rw [e]; exact r1⟩
      · obtain ⟨b', hb, e⟩ := vals_refs r2 h
        exact ⟨b', List.mem_cons_of_mem _ hb, e⟩
section
variable {X : Cx} {e : Expr} {σ : L2.St} {H : Hp} {Q : VK} {c P : Addr} {R : Addr → Hp → Prop} {j : Nat} {p0 p1 p2 p3 lpos kpos pos : Pos} {params : Arguments} {scope : Scope} {x : Str}
theorem e_sortedLam (hm : X.mg "sorted" = none) (hms : X.mg "str" = none) (TB : LamX.TabB X.base X.mg c P) (hcode : X.env.code = .ref c) (hr : Room j X.A) (ha : XN X e σ H R)
    (hR : ∀ l H2, Ex H H2 → R l H2 → ∃ bs : List Addr, H2 l = some (.lst (bs.map V.ref)) ∧ ∀ b ∈ bs, ShortT H2 b) (hT : LamX.Tabs [(P, X.env.qual ++ "<lambda>")] H)
    (k : ∀ r H', LamX.ExtN H H' → LamX.Tabs [(P, X.env.qual ++ "<lambda>")] H' → Q (.ref r) H') (hg : Gl X "sorted" := by rfl)
    (hk : scope.kind = .function := by rfl) (hco : scope.isCoroutine = false := by rfl) (hgen : scope.isGenerator = false := by rfl) (hx : scope.names.lookup x = some .local := by rfl) (hs : scope.names.lookup ("str" : Str) = some .globalImplicit := by rfl) (hcell : ∀ y ∈ scope.names, y.2 ≠ .cell := by decide) (hnf : ∀ y ∈ scope.names, y.2 ≠ .free := by decide)
    (hclo : cloFrom X.env.cells scope.names [] = [] := by rfl) (hdef : defaultsOf params X.env = ([], []) := by rfl) (hbind : ∀ (q : Str) (pm cv ctv : Value) (a : Addr), bindArgs (PySem.W.kla_fn "<lambda>" q params (.Call (.Name "str" p1) [.Name x p2] [] p3) scope [] pm cv ctv) ⟨[.ref a], []⟩ = pure [(x, .ref a)] := by intros; rfl) (dx : (x == ("__debug__" : Str)) = false := by decide)
    (he : starEach [e] X.env = (false, eval e X.env) :: starEach [] X.env := by rfl) (he2 : backTo pos (starEach [e] X.env) = (false, eval e X.env) :: backTo pos (starEach [] X.env) := by rfl) (hpl : (backTo pos (starEach [e] X.env)).any (·.1) = false := by rfl)
    (hall : (backToKw pos (keywordEach [⟨some ("key" : Str), .Lambda params (.Call (.Name "str" p1) [.Name x p2] [] p3) scope lpos, kpos⟩] X.env)).all (·.1.isSome) = true := by rfl) (hnone : (backToKw pos (keywordEach [⟨some ("key" : Str), .Lambda params (.Call (.Name "str" p1) [.Name x p2] [] p3) scope lpos, kpos⟩] X.env)).any (·.1.isNone) = false := by rfl) :
    eT X (.Call (.Name "sorted" p0) [e] [⟨some ("key" : Str), .Lambda params (.Call (.Name "str" p1) [.Name x p2] [] p3) scope lpos, kpos⟩] pos) σ H Q := fun pins s I => by
  refine wpAny_Call_Name_kw (ld_blt I hg hm boot_sorted ?_ (by decide) (by decide))
  refine PyProof.Rows.callWith_kw (thn ((wa (pa_cons peT pa_nil he) (ha H (Ex.refl H) _ fun l H2 hl0 e2 r => (⟨l, rfl, e2, r⟩ : ∃ l', [V.ref l] = [V.ref l'] ∧ Ex H H2 ∧ R l' H2)) : aT X [e] σ H fun vs H2 => ∃ l, vs = [V.ref l] ∧ Ex H H2 ∧ R l H2) pos pins s I) fun us s1 ⟨vs, H1, I1, r1, l, ev, e1, hr1⟩ => ?_) he2 hpl hall hnone
  subst ev
  obtain rfl := Vals.ref1 r1
  obtain ⟨bs, hl, hb⟩ := hR l H1 e1 hr1
  have tab1 : LamX.Tabs [(P, X.env.qual ++ "<lambda>")] H1 := hT.ext fun b o q => e1 b o q
  refine PyProof.Rows.kws_cons (LamX.lam_make2 (T := [(P, X.env.qual ++ "<lambda>")]) I1 TB hcode (List.mem_singleton.mpr rfl) (fun q hq _ => by rw [List.mem_singleton.mp hq]) tab1 hdef (fun y hy z => absurd z (hnf y hy)) fun f c' pm ctv H3 s3 I3 eN T3 hf hfn hfr hco3 => PyProof.Rows.kws_nil ?_)
  rw [hclo] at hf
  obtain ⟨⟨oc, vs, t, hoc, hdc, hvc⟩, _, _⟩ := I3.hok c' _ hco3
  have hl3 : H3 l = some (.lst (bs.map V.ref)) := eN _ _ hl fun ps z => nomatch z
  obtain ⟨its, rv, hlist, hz⟩ := I3.list (sq_of hl3)
  obtain ⟨mb, hb1, hb2⟩ := I3.mod.blt
  have hun := hr.un
  have hdp := hr.dp
  show wpAny (model X.prog X.w) X.A (call (.builtin "sorted") [.ref l] [(Str.ofString "key", .ref f)]) _ _ s3
  refine Lsq.sorted_texts hlist.isList (by rw [← rv.length]; exact hz) (by omega) (fun v hv h tk kp => ?_) fun r h' tk kp => ⟨.ref r, H3, I3.kept kp, rfl, k r H3 ((LamX.ExtN.of e1).trans eN) T3⟩
  obtain ⟨b, hbm, rfl⟩ := vals_refs rv hv
  obtain ⟨ts, hbt, hcost, hch⟩ := hb b hbm
  obtain ⟨its', rv', ⟨o, ho, hoc', n, hod⟩, _⟩ := I3.tuple (st_of (eN _ _ hbt fun ps z => nomatch z))
  have hp := fmt_piled ts hch
  have htx := fmt_text (ts.map reprText)
  refine Lsq.lam_str (s := { s3 with heap := h, toks := tk }) (by show X.A.depth < _; omega) (by show X.A.units + 1 + 1 + 20 < _; omega) (kp _ _ hf) ⟨c', oc, vs, t, rfl, kp _ _ hoc, hdc, hvc⟩ hk hco hgen hx hs hcell (hbind _ _ _ _ _) ((I3.mod.glob.keeps I3.bk).keeps kp) hms ((hb1.keeps I3.bk).keeps kp) (by rw [hb2 _ (by decide)]; exact (by decide +kernel)) (I3.nolimit.keeps kp) dx (kp _ _ ho) hoc' hod (fun prog w => repr_all rv' fun y hy => ?_) (by omega)
  have h1 := StrLaws.reprText_len y (hch y hy)
  have h2 := fmtCost_mem hy
  omega
end
end Lx
/-! LsV5 -/
set_option Elab.async false
set_option linter.all false
set_option maxRecDepth 100000
namespace Ls
open PySem PySem.Spec PyProof.Rows L2 Lx Ln
open Evl (Ex Ex.refl Ex.trans Ex.mut Ex.new Ev EvT EvL EvU EvA ex_l ex_t ex_rd sq_of st_of sz_of sz_lt fresh_back)
section
variable {P : Program} {wd : World} {K : PySem.W.Frag} {mg : Str → Option Value} {base : Heap} {M : Mc}
theorem outR_kp {o : Option (M.St × M.Wr)} {v : V} {H H' : Hp} (h : M.outR o v H) (k : Kp H H') : M.outR o v H' := by
  cases o with
  | none => exact h
  | some tr =>
    obtain ⟨p, q, h1, h2, h3⟩ := h
    exact ⟨p, q, h1, k _ _ h2 (fun _ z => nomatch z) (fun _ z => nomatch z), k _ _ h3 (fun _ z => nomatch z) (fun _ z => nomatch z)⟩
theorem outR_st (M : Mc) (o : Option (M.St × M.Wr)) : Stb (M.outR o) := by
  refine ⟨fun e h => outR_kp h (Kp.ex e), fun {v H D acc acc'} hd h => outR_kp h fun a u e n1 _ => ?_, fun {v H d od u} hd h => ?_⟩
  · rw [upd_ne (fun z => by rw [z, hd] at e; cases e; exact n1 _ rfl)]
    exact e
  · cases o with
    | none => exact h
    | some tr =>
      obtain ⟨p, q, h1, h2, h3⟩ := h
      exact ⟨p, q, h1, by rw [upd_ne (fun z => by rw [z, hd] at h2; cases h2)]; exact h2, by rw [upd_ne (fun z => by rw [z, hd] at h3; cases h3)]; exact h3⟩
def Mc.outs (M : Mc) (s : M.St) : List (Option (M.St × M.Wr)) := M.labs.map fun lb => M.out lb s
def Mc.spBeh (M : Mc) : SpN := fun vs H N Q => ∃ w s p, vs = [.ref w, .ref p] ∧ M.At w H ∧ H p = some (.tup (M.tv s)) ∧ ∀ l ws H' N', H l = none → Ex H H' → H' l = some (.lst ws) → Paired (fun v o => M.outR o v H') ws ((M.outs s).filter Option.isSome) → Q (.ref l) H' N'
set_option maxHeartbeats 1000000 in
theorem ok_behind (T : Tf K mg) (O : McOk P wd K mg base M) : CalT P wd K mg base 7 "behind_all" M.spBeh := by
  refine calT_of (Ns := ["watch", "state", "found", "label", "pair"]) T.d_behind_all (by decide +kernel) (fun vs H N Q ⟨w, s, p, e, _⟩ => by rw [e]; rfl) fun f cdv A outer sh H N vs Q hr nd h => ?_
  obtain ⟨w, s, p, rfl, hA, hp, q⟩ := h
  obtain ⟨dx, fs, hw, hl⟩ := O.ins hA
  have lb2 : fs.lookup ("labels" : Str) = none := hl _ (by simp)
  have lb3 : fs.lookup ("outcome" : Str) = none := hl _ (by simp)
  have fw := O.few
  refine bn_setLc 2 3 (en_meth0 O.m_labels hr (x_var 0) hw lb2 fun H1 e1 => ⟨w, rfl, O.at_ex hA e1, fun L lvs H2 N2 L0 e2 hL lab => ⟨L, lvs, fun D i H' N' => ∃ acc, Ex H2 H' ∧ H2 D = none ∧ N2 ≤ N' ∧ H' D = some (.lst acc) ∧ Paired (fun v o => M.outR o v H') acc ((M.labs.take i).map fun lb => M.out lb s), rfl, sq_of hL, fun D hD => ⟨[], Ex.new hD, hD, Nat.le_refl _, upd_same, .nil⟩, fun D i H' N' ⟨acc, e3, _⟩ => sq_of (e3 _ _ hL), ?_, ?_⟩⟩)
  · rintro D i x H3 N3 hx ⟨acc, e3, hD, n3, hacc, hpr⟩ s0 H0 C cl fp
    obtain ⟨lb, hlb, rlb⟩ := prd_at lab hx
    obtain ⟨pl, rfl⟩ := O.lb_ref rlb
    have x3 : Ex H H3 := (e1.trans e2).trans e3
    refine en_meth O.m_out hr (x_var 0) (x3 _ _ hw) lb3 fun H4 e4 => an_xa (x_acons (x_var 3) (x_acons (x_var 1) x_anil)) fun H5 e5 => ⟨w, lb, s, pl, p, rfl, O.at_ex hA (x3.trans (e4.trans e5)), O.lb_keep rlb n3 (Kp.ex (e3.trans (e4.trans e5))), (x3.trans (e4.trans e5)) _ _ hp, fun v H6 N6 e6 n6 o6 => ?_⟩
    have x6 : Ex H3 H6 := (e4.trans e5).trans e6
    have lacc : acc.length ≤ 100 := by
      have := paired_len hpr
      rw [List.length_map, List.length_take] at this
      omega
    refine ⟨acc, x6 _ _ hacc, by omega, acc ++ [v], Ex.mut (e3.trans x6) hD, hD, Nat.le_trans n3 n6, upd_same, ?_⟩
    have kp : Kp H6 (upd H6 D (.lst (acc ++ [v]))) := fun a u e n1 _ => by
      rw [upd_ne (fun z => by rw [z, x6 _ _ hacc] at e; cases e; exact n1 _ rfl)]
      exact e
    rw [List.take_add_one, hlb, List.map_append]
    exact paired_snoc (Paired.mapP hpr fun v o h => outR_kp (outR_kp h (Kp.ex x6)) kp) (outR_kp o6 kp)
  · rintro D H3 N3 ⟨acc, e3, hD, n3, hacc, hpr⟩
    rw [paired_len lab, List.take_length] at hpr
    have x3 : Ex H H3 := (e1.trans e2).trans e3
    refine bn_ret (en_xn (xn_lc 4 (as := M.outs s) (Rp := fun o x => M.outR o x H3) (f := Option.isSome) (R := fun o => M.outR o) (src_l (x_var 2) (sq_of hacc)) hpr (fun o => outR_st M o) (by unfold Mc.outs; rw [List.length_map]; omega) fun o x H' _ e4 ho s0 H0 C cl fp => ⟨ts_one (t_is (t_notN (x_var 4) x_non) ?_), fun _ => ?_⟩) fun l H4 l0 e4 ⟨vs, h1, h2⟩ => q l vs H4 _ (fresh_back x3 l0) (x3.trans e4) h1 h2)
    · cases o with
      | none => rw [show x = V.non from ho]; simp
      | some tr =>
        obtain ⟨p, q, rfl, _⟩ := ho
        simp
    · exact xp_imp (xp_e (x_var 4)) fun v H5 e5 ev => by rw [ev]; exact outR_kp ho (Kp.ex (e4.trans e5))
end
end Ls
/-! LsV6 -/
set_option Elab.async false
set_option linter.all false
set_option maxRecDepth 100000
namespace Ln
open PySem PySem.Spec PyProof.Rows L2 Lx
open Evl (Ex Ex.refl Ex.trans Ex.mut Ex.new Ev EvT EvL EvU EvA ex_l ex_t ex_rd sq_of st_of sz_of sz_lt fresh_back)
section
variable {P : Program} {w : World} {K : PySem.W.Frag} {mg : Str → Option Value} {base : Heap}
theorem fnT_bodyC {x qual : Str} {st : Stmt} {f : Addr} {fd : FuncData} {Ns ps : List Str} {k : Nat} {sp : SpN} (F : C8.Fun K x qual st f fd) (S : FnScope Ns ps (C8.fnScope st)) (len : ∀ vs H N Q, sp vs H N Q → vs.length = ps.length)
    (hbody : ∀ (cdv : Value), fd.code = cdv → ∀ (A : Around) (outer : List Env) (s : Shared) (H : Hp) (N : Nat) (vs : List V) (Q : VN), Room k (A.deeper (envOfC qual (C8.fnScope st) s.heap.objs.size f cdv)) → sp vs H N Q →
      bN (cxOf C8.CX0 P w K mg base Ns qual (C8.fnScope st) f cdv A outer s H C8.E0).nox (C8.fnBody st) { nx := fun _ H' N' => Q .non H' N', rt := Q } (start Ns vs) H N) : FnT P w K mg base (k + 1) f fd ps sp := by
  obtain ⟨oc, od, dV, kV, doc, pm, an, cdv, ct, osl, rfl, lk, hcd⟩ := F.ex
  refine ⟨len, fun A outer s H N args us vs Q hr e0 hn hb r hsp => ?_⟩
  have hin : K.In s.heap := e0.mod.kin.keeps fun b o e => (e0.bs b o e).1
  have hlim : s.heap.NoLimit := e0.mod.nolimit.keeps fun b o e => (e0.bs b o e).1
  have kinds : ∀ y ∈ ps.zip us, (C8.fnScope st).names.lookup y.1 = some .local ∨ ((C8.fnScope st).names.lookup y.1 = some .cell ∧ ((cellsFrom (s.heap.objs.size + 1) (C8.fnScope st).names []).lookup y.1).isSome = true) := by
    rintro ⟨nm, u⟩ hy
    exact (S.par nm (List.of_mem_zip hy).1).imp id fun q => ⟨q, PySem.W.cellsFrom_some _ _ _ (.inl q)⟩
  refine codeAny_mono (codeAny_toks_of hn (codeAny_call_function hr.depth (hin _ _ lk) rfl S.co S.gen rfl (PySem.W.codeRec_of hin hcd) (hb _ _ _ _ ?_))) fun r s' x => x.2
  refine wpAny_mono (wpAny_toks_of hn (wpAny_newFunctionEnv_cells S.kind kinds fun env he s1 x => (show (env = envOfC qual (C8.fnScope st) s.heap.objs.size f cdv) ∧ InCallC s s.heap.objs.size (bindL (envOfC qual (C8.fnScope st) s.heap.objs.size f cdv).kindOf (ps.zip us) fun _ => none) (cellsFrom (s.heap.objs.size + 1) (C8.fnScope st).names []) (bindC (envOfC qual (C8.fnScope st) s.heap.objs.size f cdv).kindOf (ps.zip us) fun _ => none) s1 from by subst he; exact ⟨rfl, x⟩))) (fun env s1 z => ?_) fun _ _ z => z.2
  obtain ⟨n1, he, x⟩ := z
  subst he
  refine ⟨hlim.keeps x.toInCall.keep, codeAny_func ?_⟩
  have I := inv_start (CX := C8.CX0) (P := P) (w := w) (K := K) (mg := mg) (base := base) (E := C8.E0) S hr.hd e0 (len _ _ _ _ hsp) r x
  refine wpAny_mono (hbody cdv rfl A outer s H N vs Q (hr.deeper _) hsp [] s1 n1 (I.wish _)) (fun fl s2 hs => ?_) fun _ _ z => False.elim z
  obtain ⟨N2, n2, hs⟩ := sq_un hs
  refine ⟨N2, n2, ?_⟩
  cases fl with
  | ret u =>
    obtain ⟨v, σ2, H2, J, rv, q⟩ := hs
    exact ⟨v, H2, J.os, J.bare, J.base, J.hok, rv, q⟩
  | next =>
    obtain ⟨σ2, H2, J, q⟩ := hs
    exact ⟨.non, H2, J.os, J.bare, J.base, J.hok, rfl, q⟩
  | brk =>
    obtain ⟨_, _, _, q⟩ := hs
    exact (show False from q).elim
  | cont =>
    obtain ⟨_, _, _, q⟩ := hs
    exact (show False from q).elim

/-- a def whose code object is told -/
structure DFC (K : PySem.W.Frag) (mg : Str → Option Value) (x : Str) (st : Stmt) (ps : List Str) (c : Addr) : Prop where
  ex : ∃ (f : Addr) (fd : FuncData), C8.Def K mg x st f fd ∧ Binds K fd ps [] ∧ fd.code = .ref c
theorem calT_ofC {x : Str} {st : Stmt} {Ns ps : List Str} {k : Nat} {c : Addr} {sp : SpN} (F : DFC K mg x st ps c) (S : C8.scC Ns ps (C8.fnScope st) = true) (len : ∀ vs H N Q, sp vs H N Q → vs.length = ps.length)
    (hbody : ∀ (f : Addr) (A : Around) (outer : List Env) (s : Shared) (H : Hp) (N : Nat) (vs : List V) (Q : VN), Room k (A.deeper (envOfC x (C8.fnScope st) s.heap.objs.size f (.ref c))) → Ns.Nodup → sp vs H N Q →
      bN (cxOf C8.CX0 P w K mg base Ns x (C8.fnScope st) f (.ref c) A outer s H C8.E0).nox (C8.fnBody st) { nx := fun _ H' N' => Q .non H' N', rt := Q } (start Ns vs) H N) : CalT P w K mg base (k + 1) x sp := by
  obtain ⟨f, fd, D, b, hc⟩ := F.ex
  exact ⟨f, fd, ps, fnT_bodyC D.fn (C8.fnScope_by S) len fun cdv e A outer s H N vs Q hr h => by
    obtain rfl : Value.ref c = cdv := hc.symm.trans e
    exact hbody f A outer s H N vs Q hr (C8.fnScope_by S).nd h, D.mgf, D.kp, b⟩
end
end Ln
namespace Ls
open PySem PySem.Spec PyProof.Rows L2 Lx Ln
open Evl (Ex Ex.refl Ex.trans Ex.mut Ex.new Ev EvT EvL EvU EvA ex_l ex_t ex_rd sq_of st_of sz_of sz_lt fresh_back)
section
variable {P : Program} {wd : World} {K : PySem.W.Frag} {mg : Str → Option Value} {base : Heap} {M : Mc}
theorem qt_ne (q : Qu) : q.t ≠ "stuck" := fun h => by
  have : 32 ∈ q.t.cps.toList := by
    unfold Qu.t
    show 32 ∈ ((q.w.cps ++ (" " : Str).cps) ++ q.n.cps).toList
    rw [Array.toList_append, Array.toList_append]
    exact List.mem_append_left _ (List.mem_append_right _ (by decide +kernel))
  rw [h] at this
  exact absurd this (by decide +kernel)
/-- the watch of a question, seen from afar -/
theorem mach_of (T : Tf K mg) {B : Bk} {qu : Qu} {p : Addr} {H : Hp} (h : WatR K B qu p H) : ∃ M : Mc, McOk P wd K mg base M ∧ M.At p H := by
  cases qu with
  | kind k =>
    obtain ⟨W, h1, _, _, h4⟩ := h
    exact ⟨kindM K W, kindM_ok T W, h1, h4⟩
  | col n c =>
    obtain ⟨W, x, h1, _⟩ := h
    exact ⟨colM K W x n, colM_ok T W x n, h1⟩
theorem short_tv (O : McOk P wd K mg base M) {H : Hp} {b : Addr} {s : M.St} (h : H b = some (.tup (M.tv s))) : ShortT H b := by
  obtain ⟨l5, ok⟩ := O.short s
  have cost : ∀ l : List Str, (∀ y ∈ l, y.length ≤ 10) → fmtCost l ≤ l.length * 104 := fun l => by
    induction l with
    | nil => intro _; exact Nat.le_refl _
    | cons y l ih =>
      intro hl
      have := ih fun z hz => hl z (List.mem_cons_of_mem _ hz)
      have h0 := hl y (List.mem_cons_self ..)
      rw [fmtCost_cons, List.length_cons]
      omega
  have c := cost (M.tx s) fun y hy => (ok y hy).1
  exact ⟨M.tx s, h, by rw [sizeLine_eq]; omega, fun y hy => (ok y hy).2⟩
def tabQ : Str := ("table" : Str) ++ ".<locals>." ++ "<lambda>"
abbrev lamT (PT : Addr) : List (Addr × Str) := [(PT, tabQ)]
def spTab (K : PySem.W.Frag) (PT : Addr) : SpN := fun vs H N Q => ∃ b a B qu, vs = [.ref b, .str (Qu.t qu)] ∧ BkAt K H b a B ∧ BkOk B ∧ qu.ok B ∧ LamX.Tabs (lamT PT) H ∧ ∀ r H' N', LamX.ExtN H H' → LamX.Tabs (lamT PT) H' → Q (.ref r) H' N'
/-- the table's own things -/
structure Tb (M : Mc) (H0 : Hp) (d l : Addr) (vis : List M.St) (wait : List (M.St × Addr)) (H : Hp) : Prop where
  ex : Ex H0 H
  d0 : H0 d = none
  l0 : H0 l = none
  hd : H d = some (.dT (vis.map fun s => (M.key s, V.bl true)))
  hl : H l = some (.lst (wait.map fun q => V.ref q.2))
  wt : ∀ q ∈ wait, H q.2 = some (.tup (M.tv q.1))
  nd : vis.Nodup
  sz : wait.length ≤ 4000
theorem Tb.mono {H0 H H' : Hp} {d l : Addr} {vis : List M.St} {wait : List (M.St × Addr)} (t : Tb M H0 d l vis wait H) (e : Ex H H') : Tb M H0 d l vis wait H' := ⟨t.ex.trans e, t.d0, t.l0, e _ _ t.hd, e _ _ t.hl, fun q hq => e _ _ (t.wt q hq), t.nd, t.sz⟩
theorem Tb.upl {H0 H : Hp} {d l : Addr} {vis : List M.St} {wait wait' : List (M.St × Addr)} (t : Tb M H0 d l vis wait H) (h : ∀ q ∈ wait', H q.2 = some (.tup (M.tv q.1))) (z : wait'.length ≤ 4000) : Tb M H0 d l vis wait' (upd H l (.lst (wait'.map fun q => V.ref q.2))) := by
  have dl : d ≠ l := fun z => by have := t.hd; rw [z, t.hl] at this; cases this
  refine ⟨Ex.mut t.ex t.l0, t.d0, t.l0, by rw [upd_ne dl]; exact t.hd, upd_same, fun q hq => ?_, t.nd, z⟩
  have := h q hq
  rw [upd_ne (fun z => by rw [z, t.hl] at this; cases this)]
  exact this
theorem Tb.upd' {H0 H : Hp} {d l : Addr} {vis : List M.St} {wait : List (M.St × Addr)} {s : M.St} (t : Tb M H0 d l vis wait H) (n : s ∉ vis) : Tb M H0 d l (vis ++ [s]) wait (upd H d (.dT ((vis.map fun s => (M.key s, V.bl true)) ++ [(M.key s, V.bl true)]))) := by
  have dl : d ≠ l := fun z => by have := t.hd; rw [z, t.hl] at this; cases this
  refine ⟨Ex.mut t.ex t.d0, t.d0, t.l0, by rw [upd_same, List.map_append] <;> rfl, by rw [upd_ne (Ne.symm dl)]; exact t.hl, fun q hq => ?_, List.nodup_append.mpr ⟨t.nd, by simp, fun x hx y hy e => n (by rw [show y = s by simpa using hy] at e; rw [← e]; exact hx)⟩, t.sz⟩
  have := t.wt q hq
  rw [upd_ne (fun z => by rw [z, t.hd] at this; cases this)]
  exact this
theorem tb_none (O : McOk P wd K mg base M) : ∀ {vis : List M.St} {t : M.St}, t ∉ vis → valV (vis.map fun s => (M.key s, V.bl true)) (M.key t) = none
  | [], _, _ => rfl
  | p :: vis, t, h => by
    rw [List.map_cons, valV_neg (p := (M.key p, V.bl true)) (fun z => h (by rw [← key_inj O z]; exact List.mem_cons_self ..))]
    exact tb_none O fun z => h (List.mem_cons_of_mem _ z)
theorem tb_some : ∀ {vis : List M.St} {t : M.St}, t ∈ vis → (valV (vis.map fun s => (M.key s, V.bl true)) (M.key t)).isSome = true
  | p :: vis, t, h => by
    by_cases e : M.key p = M.key t
    · rw [List.map_cons, valV_pos (p := (M.key p, V.bl true)) e] <;> rfl
    · rw [List.map_cons, valV_neg (p := (M.key p, V.bl true)) e]
      rcases List.mem_cons.mp h with z | z
      · exact absurd (by rw [z]) e
      · exact tb_some z
set_option maxHeartbeats 2000000 in
theorem ok_table (T : Tf K mg) (S : TfS P K) {c PT : Addr} (F : DFC K mg "table" (top 60) ["book", "question"] c) (TB : LamX.TabB base mg c PT) : CalT P wd K mg base 8 "table" (spTab K PT) := by
  refine calT_ofC (Ns := ["book", "question", "watch", "found", "waiting", "state", "wrong"]) F (by decide +kernel) (fun vs H N Q ⟨b, a, B, qu, e, _⟩ => by rw [e]; rfl) fun f A outer sh H N vs Q hr nd h => ?_
  obtain ⟨b, a, B, qu, rfl, hB, O, hq, hT, q⟩ := h
  refine bn_if (b := false) (t_is (t_eqS (x_call (ok_cq T) hr (x_acons (x_var 0) (x_acons (x_var 1) x_anil)) (v_cq hB O hq)) x_str) (decide_eq_false (qt_ne qu))) (fun e => nomatch e) fun _ H1 e1 => bn_nil ?_
  refine bn_st (b_setN 2 (xn_call (ok_watch_of T S) hr (x_acons (x_var 0) (x_acons (x_var 1) x_anil)) (R := WatR K B qu) fun H2 e2 Q q => ⟨b, a, B, qu, rfl, hB.mono (e1.trans e2), O, hq, q⟩) fun w H2 w0 e2 hW => b_nil ?_)
  obtain ⟨M, Mo, hA⟩ := mach_of (P := P) (wd := wd) (base := base) T hW
  obtain ⟨dx, fs, hw, hl⟩ := Mo.ins hA
  have lb1 : fs.lookup ("begin" : Str) = none := hl _ (by simp)
  refine bn_st (b_setN 3 (xn_dispT1 (kk := M.key M.s0) (S := fun y _ => y = .bl true) hr (xn_meth0 (R := fun p H => H p = some (.tup (M.tv M.s0))) Mo.m_begin hr (x_var 2) hw lb1 fun H3 e3 Q q => ⟨w, rfl, Mo.at_ex hA e3, q⟩) (fun p H3 _ h => by rw [M.key_v]; exact h) (xp_e x_bl) (fun y _ _ _ h => h) fun y _ _ _ _ h => h) fun d H3 d0 e3 ⟨y, hd, ey⟩ => b_nil ?_)
  subst ey
  refine bn_st (b_setN 4 (xn_lstP (R := fun vs H => ∃ v r, vs = v :: r ∧ (∃ p, v = V.ref p ∧ H p = some (.tup (M.tv M.s0))) ∧ r = []) (xap_cons (xp_n (xn_meth0 (R := fun p H => H p = some (.tup (M.tv M.s0))) Mo.m_begin hr (x_var 2) (e3 _ _ hw) lb1 fun H4 e4 Q q => ⟨w, rfl, Mo.at_ex hA (e3.trans e4), q⟩)) (xap_e x_anil) fun v H1 H2 e ⟨p, h1, h2⟩ => ⟨p, h1, e _ _ h2⟩) (fun vs H2 ⟨v, r, e1, _, e2⟩ => by rw [e1, e2]; show 1 ≤ 100000; decide) fun vs H1 H2 e ⟨v, r, h1, ⟨p, h2, h3⟩, h4⟩ => ⟨v, r, h1, ⟨p, h2, e _ _ h3⟩, h4⟩) fun l H4 l0 e4 hlw => b_nil ?_)
  obtain ⟨_, hl4, v, r, rfl, ⟨ps, rfl, hps⟩, rfl⟩ := hlw
  have B0 : Tb M H2 d l [M.s0] [(M.s0, ps)] H4 := by
    refine ⟨e3.trans e4, d0, fresh_back e3 l0, e4 _ _ hd, hl4, fun q hq => ?_, by simp, by simp⟩
    rw [List.mem_singleton.mp hq]
    exact hps
  have small := Mo.small
  have few := Mo.few
  have visle : ∀ {vis : List M.St}, vis.Nodup → vis.length ≤ M.uni.length := fun {vis} h => by
    have := M.dec
    exact nd_le h fun s _ => Mo.all s
  show bN _ _ _ _ _ _
  refine bn_while (fun m σ' H' N' => ∃ vis wait x5 x6, σ' = [some (.ref b), some (.str qu.t), some (.ref w), some (.ref d), some (.ref l), x5, x6] ∧ Tb M H2 d l vis wait H' ∧ wait.length + 2 * (M.uni.length - vis.length) = m ∧ m ≤ 4000) (1 + 2 * (M.uni.length - 1)) ⟨_, _, none, none, rfl, B0, rfl, by omega⟩ ?_
  rintro m σ' H5 N5 ⟨vis, wait, x5, x6, rfl, B, em, lm⟩
  refine ⟨decide (wait ≠ []), t_is (t_gt (x_lenL T.b_len (x_var 4) (sq_of B.hl)) x_int) ?_, fun hb H6 e6 => ?_, fun hb H6 e6 => ?_⟩
  · cases wait with
    | nil => rfl
    | cons _ _ => simp
  · obtain ⟨wait, q0, rfl⟩ : ∃ w' q0, wait = w' ++ [q0] := by
      have hn : wait ≠ [] := by simpa using hb
      exact ⟨_, _, (List.dropLast_concat_getLast hn).symm⟩
    have B6 := B.mono e6
    have dl : d ≠ l := fun z => by have := B6.hd; rw [z, B6.hl] at this; cases this
    have hl6 := B6.hl
    rw [List.map_append] at hl6
    rw [List.length_append, List.length_singleton] at em
    refine bn_forL (pg_tup rfl (pgs_cons (pg_name (i := 5) nd rfl (.inl rfl)) (pgs_cons (pg_name (i := 6) nd rfl (.inl rfl)) pgs_nil))) (en_call (ok_behind T Mo) hr (an_cons (en_xe (x_var 2) fun H7 e7 => an_cons (en_e (e_popL (e7 _ _ hl6) (x_var 4) fun H8 e8 => an_nil ?_)))))
    have B8 : Tb M H2 d l vis wait (upd H8 l (.lst (wait.map fun q => V.ref q.2))) := ((B6.mono e7).mono e8).upl (fun q hq => e8 _ _ (e7 _ _ (B6.wt q (List.mem_append_left _ hq)))) (by omega)
    refine ⟨w, q0.1, q0.2, rfl, Mo.at_ex hA B8.ex, ?_, fun L ws H9 N9 L0 e9 hL hpr => ?_⟩
    · have := e8 _ _ (e7 _ _ (B6.wt q0 (List.mem_append_right _ (List.mem_singleton.mpr rfl))))
      rw [upd_ne (fun z => by rw [z, e8 _ _ (e7 _ _ hl6)] at this; cases this)]
      exact this
    have Ll : L ≠ l := fun z => by rw [z, upd_same] at L0; cases L0
    refine ⟨L, ws, fun i σ' H' N' => ∃ vis wait x5 x6, σ' = [some (.ref b), some (.str qu.t), some (.ref w), some (.ref d), some (.ref l), x5, x6] ∧ Tb M H2 d l vis wait H' ∧ H' L = some (.lst ws) ∧ Paired (fun v o => M.outR o v H') ws ((M.outs q0.1).filter Option.isSome) ∧ wait.length + 2 * (M.uni.length - vis.length) + 1 ≤ m, rfl, ⟨vis, wait, x5, x6, rfl, B8.mono e9, hL, hpr, by omega⟩, fun i σ' H' N' ⟨vis, wait, x5, x6, _, _, h, _⟩ => sq_of h, ?_, ?_⟩
    · rintro i x σ' H10 N10 hx ⟨vis, wait, x5, x6, rfl, B, hL, hpr, lm2⟩
      obtain ⟨o, ho, ro⟩ := prd_at hpr hx
      have hs : o.isSome = true := (List.mem_filter.mp (List.mem_of_getElem? ho)).2
      obtain ⟨tr, rfl⟩ := Option.isSome_iff_exists.mp hs
      obtain ⟨t, r⟩ := tr
      obtain ⟨p, sq, rfl, hp, hsq⟩ := ro
      refine ⟨p, _, rfl, st_of hp, rfl, _, _, rfl, _, _, rfl, rfl, ?_⟩
      have dL : d ≠ L := fun z => by have := B.hd; rw [z, hL] at this; cases this
      refine bn_if (b := !(valV (vis.map fun s => (M.key s, V.bl true)) (M.key t)).isSome) (t_niD hr (x_var 5) (x_var 3) (get_t (.inl B.hd) (by rw [M.key_v]; exact hsq))) (fun hb2 H11 e11 => ?_) fun hb2 H11 e11 => bn_nil (bn_nil ⟨vis, wait, _, _, rfl, B.mono e11, e11 _ _ hL, Paired.mapP hpr fun _ _ h => outR_kp h (Kp.ex e11), lm2⟩)
      have nt : t ∉ vis := fun z => by
        rw [tb_some z] at hb2
        cases hb2
      have B11 := B.mono e11
      have lv : vis.length + 1 ≤ M.uni.length := by
        have : (vis ++ [t]).Nodup := List.nodup_append.mpr ⟨B.nd, by simp, fun x hx y hy e => nt (by rw [show y = t by simpa using hy] at e; rw [← e]; exact hx)⟩
        have := visle this
        rw [List.length_append, List.length_singleton] at this
        exact this
      refine bn_st (b_dput (S := fun v _ => v = .bl true) (H4 := fun H => upd H d (.dT (putK (vis.map fun s => (M.key s, V.bl true)) (M.key t) (.bl true)))) hr (xp_e x_bl) (x_var 3) (x_var 5) (fun v H12 e12 ev => ⟨?_, b_nil ?_⟩) fun _ _ _ _ z => z)
      · rw [ev]
        exact DPut.t (e12 _ _ B11.hd) (by rw [M.key_v]; exact e12 _ _ (e11 _ _ hsq)) (sz_lt (by rw [List.length_map]; omega))
      · rw [putK_new _ (tb_none Mo nt)]
        have B12 := (B11.mono e12).upd' nt
        refine bn_st (b_app (xs := wait.map fun q => V.ref q.2) B12.hl (x_var 4) (x_var 5) (by rw [List.length_map]; have := B.sz; omega) fun H13 e13 => b_nil (bn_nil (bn_nil ?_)))
        have hsq12 := e12 _ _ (e11 _ _ hsq)
        have sd : sq ≠ d := fun z => by rw [z, (B11.mono e12).hd] at hsq12; cases hsq12
        have B13 := (B12.mono e13).upl (wait' := wait ++ [(t, sq)]) (fun q hq => by
          rcases List.mem_append.mp hq with hq | hq
          · exact e13 _ _ (B12.wt q hq)
          · rw [List.mem_singleton.mp hq]
            exact e13 _ _ (by rw [upd_ne sd]; exact hsq12)) (by rw [List.length_append, List.length_singleton]; omega)
        rw [List.map_append] at B13
        have k13 : Kp H10 (upd H13 l (.lst ((wait.map fun q => V.ref q.2) ++ [V.ref sq]))) := fun a o h n1 n2 => by
          rw [upd_ne (fun z => by rw [z, B.hl] at h; cases h; exact n1 _ rfl)]
          refine e13 _ _ ?_
          rw [upd_ne (fun z => by rw [z, B.hd] at h; cases h; exact n2 _ rfl)]
          exact e12 _ _ (e11 _ _ h)
        refine ⟨vis ++ [t], wait ++ [(t, sq)], _, _, rfl, B13, ?_, Paired.mapP hpr fun _ _ h => outR_kp h k13, ?_⟩
        · show upd H13 l _ L = _
          rw [upd_ne Ll]
          exact e13 _ _ (by rw [upd_ne (Ne.symm dL)]; exact e12 _ _ (e11 _ _ hL))
        · rw [List.length_append, List.length_append, List.length_singleton, List.length_singleton]
          omega
    · rintro σ' H10 N10 ⟨vis, wait, x5, x6, rfl, B, hL, hpr, lm2⟩
      exact bn_nil ⟨wait.length + 2 * (M.uni.length - vis.length), by omega, vis, wait, _, _, rfl, B, rfl, by omega⟩
  · have B6 := B.mono e6
    refine bn_ret (en_e (e_sortedLam T.b_sorted T.b_str TB rfl hr (R := fun p H' => ∃ bs : List Addr, H' p = some (.lst (bs.map V.ref)) ∧ ∀ b ∈ bs, ShortT H' b) (xn_ty (call_list_dT rfl) T.b_list Lx.boot_list (x_acons (x_var 3) x_anil) fun H7 e7 Q q => ⟨d, _, rfl, .inl (e7 _ _ B6.hd), fun p bs hp hk => q p _ hp (Ex.new hp) ⟨bs, upd_same, fun b hb => ?_⟩⟩) (fun p H7 _ h => h) (hT.ext fun b o h => B6.ex _ _ ((e1.trans e2) _ _ h)) fun r H7 eN T7 => q r H7 _ ((LamX.ExtN.of fun b o h => B6.ex _ _ ((e1.trans e2) _ _ h)).trans eN) T7))
    obtain ⟨i, hi⟩ := List.mem_iff_getElem?.mp hb
    obtain ⟨kv, hkv, e⟩ := prd_at' hk hi
    rw [List.getElem?_map] at hkv
    obtain ⟨s, _, rfl⟩ := Option.map_eq_some_iff.mp hkv
    rw [M.key_v] at e
    refine short_tv Mo (s := s) ?_
    rw [upd_ne (ne_of_none e hp)]
    exact e
end
end Ls
/-! LsV7 -/
set_option Elab.async false
set_option linter.all false
set_option maxRecDepth 100000
namespace Lx
open PySem PySem.Spec PyProof.Rows L2 Evl
/-- {k: a new thing} -/
theorem xn_dispK1 {X : Cx} {k v : Expr} {σ : L2.St} {H : Hp} {pos : Pos} {kk : Key} {R : Addr → Hp → Prop} (hk : XE X k σ H (kV kk)) (hv : XN X v σ H R) (hS : ∀ y H1 p u, H1 p = some (.dK []) → R y H1 → R y (upd H1 p u)) :
    XN X (.Dict [some k] [v] pos) σ H (fun p H2 => ∃ y, H2 p = some (.dK [(kk, .ref y)]) ∧ H y = none ∧ R y H2) :=
  xn (pe_disp (pps_cons peT peT pps_nil) (by rfl) (by rfl) (by simp) (by exact Nat.le_of_ble_eq_true rfl)) fun H1 e1 Q q => fun p hp => hk _ (e1.trans (Ex.new hp)) _ fun H2 e2 => hv _ ((e1.trans (Ex.new hp)).trans e2) _ fun y H3 hy e3 s3 =>
    ⟨e3 _ _ (e2 _ _ upd_same), [(kk, .ref y)], rfl, by exact Nat.le_of_ble_eq_true rfl, q p _ hp (Ex.mut (((Ex.new hp).trans e2).trans e3) hp) ⟨y, upd_same, fresh_back ((e1.trans (Ex.new hp)).trans e2) hy, hS y H3 p _ (e3 _ _ (e2 _ _ upd_same)) s3⟩⟩
theorem b_setQ {X : Cx} {e : Expr} {rest : List Stmt} {D : Ends} {σ : L2.St} {H : Hp} {p1 pos : Pos} (i : Nat) {x : Str} (h : eT X e σ H fun v H1 => bT X rest D (σ.set i (some v)) H1) (hN : X.N.Nodup := by assumption) (hi : X.N[i]? = some x := by rfl) (hx : Loc X.env.scope x := by first | exact Or.inl rfl | exact Or.inr rfl)
    (hs : swapsWith e (some (.Name x p1)) pos.line X.env = pure false := by rfl) (hf : X.fn x = true ∨ X.env.scope.names.lookup x = some .local := by first | exact .inl rfl | exact .inr rfl) : bT X (.Assign [.Name x p1] e pos :: rest) D σ H := b_cons (ws (L2.ps_set hN hi hx peT hs hf) h)
theorem at_0 (x : V) (xs : List V) : atI (x :: xs) 0 = some x := by
  unfold atI ixN
  simp
theorem upd_self {H : Hp} {a : Addr} {o : HO} (h : H a = some o) : upd H a o = H := by
  funext b
  unfold upd
  split
  · rename_i e
    rw [e, h]
  · rfl
end Lx
namespace Ls
open PySem PySem.Spec PyProof.Rows L2 Lx Ln
open Evl (Ex Ex.refl Ex.trans Ex.mut Ex.new Ev EvT EvL EvU EvA ex_l ex_t ex_rd sq_of st_of sz_of sz_lt fresh_back)
section
variable {P : Program} {wd : World} {K : PySem.W.Frag} {mg : Str → Option Value} {base : Heap}
/-- a list of columns -/
def ColsL (K : PySem.W.Frag) (n : Nat) (p : Addr) (H : Hp) : Prop := ∃ cvs cs, H p = some (.lst cvs) ∧ PairsR (ColR K) cvs cs H ∧ cs.length ≤ n ∧ ∀ c ∈ cs, c.word.length ≤ 100
structure Cu (K : PySem.W.Frag) (H0 : Hp) (d3 : Addr) (u3 : HO) (d l : Addr) (vis : List (Str × Addr)) (wait done : List Str) (H : Hp) : Prop where
  ex : Ex (upd H0 d3 u3) H
  d0 : H0 d = none
  l0 : H0 l = none
  nd3 : d ≠ d3
  nl3 : l ≠ d3
  hd : H d = some (.dK (vis.map fun q => ((Sum.inr q.1 : Key), V.ref q.2)))
  hl : H l = some (.lst (wait.map V.str))
  pa : ∀ q ∈ vis, q.2 ≠ l ∧ ColsL K done.length q.2 H
  fr : ∀ q ∈ vis, H0 q.2 = none
  nd : (vis.map (·.1)).Nodup
  pm : vis.map (·.1) = done ++ wait
def Col3 (d3 : Addr) (H H' : Hp) : Prop := ∀ a o, a ≠ d3 → H a = some o → H' a = some o
variable {H0 H H' : Hp} {d3 d l : Addr} {u3 u4 : HO} {vis : List (Str × Addr)} {wait done : List Str}
theorem ColsL.keep {n n' : Nat} {p : Addr} (h : ColsL K n p H) (hn : n ≤ n') (hp : ∀ o, H p = some o → H' p = some o) (k : ∀ a C dx fs, H a = some (.ins C dx fs) → H' a = some (.ins C dx fs)) : ColsL K n' p H' := by
  obtain ⟨cvs, cs, h1, h2, h3, h4⟩ := h
  exact ⟨cvs, cs, hp _ h1, Paired.mapP h2 fun v c ⟨q, dx, e, h⟩ => ⟨q, dx, e, k _ _ _ _ h⟩, Nat.le_trans h3 hn, h4⟩
theorem Cu.dl (c : Cu K H0 d3 u3 d l vis wait done H) : d ≠ l := fun z => by have := c.hd; rw [z, c.hl] at this; cases this
theorem Cu.h3 (c : Cu K H0 d3 u3 d l vis wait done H) : H d3 = some u3 := c.ex _ _ upd_same
theorem Cu.move (c : Cu K H0 d3 u3 d l vis wait done H) (k : Col3 d3 H H') (h : H' d3 = some u4) (k3 : ∀ C dx fs, u3 ≠ .ins C dx fs) (k4 : ∀ xs, u3 ≠ .lst xs) : Cu K H0 d3 u4 d l vis wait done H' := by
  refine ⟨fun a o e => ?_, c.d0, c.l0, c.nd3, c.nl3, k _ _ c.nd3 c.hd, k _ _ c.nl3 c.hl, fun q hq => ⟨(c.pa q hq).1, (c.pa q hq).2.keep (Nat.le_refl _) (fun o e => k _ _ (fun z => ?_) e) fun a C dx fs e => k _ _ (fun z => ?_) e⟩, c.fr, c.nd, c.pm⟩
  · by_cases z : a = d3
    · subst z
      rw [upd_same] at e
      cases e
      exact h
    · rw [upd_ne z] at e
      exact k _ _ z (c.ex _ _ (by rw [upd_ne z]; exact e))
  · obtain ⟨_, cvs, cs, h1, _⟩ := c.pa q hq
    rw [z, c.h3] at h1
    exact k4 _ (Option.some.inj h1)
  · rw [z, c.h3] at e
    exact k3 _ _ _ (Option.some.inj e)
theorem Cu.mono (c : Cu K H0 d3 u3 d l vis wait done H) (e : Ex H H') (k3 : ∀ C dx fs, u3 ≠ .ins C dx fs) (k4 : ∀ xs, u3 ≠ .lst xs) : Cu K H0 d3 u3 d l vis wait done H' := c.move (fun a o _ h => e a o h) (e _ _ c.h3) k3 k4
theorem Cu.pop {k : Str} (c : Cu K H0 d3 u3 d l vis (k :: wait) done H) : Cu K H0 d3 u3 d l vis wait (done ++ [k]) (upd H l (.lst (wait.map V.str))) := by
  refine ⟨fun a o e => ?_, c.d0, c.l0, c.nd3, c.nl3, by rw [upd_ne c.dl]; exact c.hd, upd_same, fun q hq => ⟨(c.pa q hq).1, (c.pa q hq).2.keep (by rw [List.length_append]; omega) (fun o e => by rw [upd_ne (c.pa q hq).1]; exact e) fun a C dx fs e => by rw [upd_ne (fun z => by rw [z, c.hl] at e; cases e)]; exact e⟩, c.fr, c.nd, by rw [c.pm, List.append_assoc] <;> rfl⟩
  rw [upd_ne (fun z => by
    rw [z, upd_ne c.nl3, c.l0] at e
    cases e)]
  exact c.ex _ _ e
theorem Cu.push {k : Str} {ap : Addr} {H1 H2 : Hp} (c : Cu K H0 d3 u3 d l vis wait done H) (e1 : Ex H H1) (hp : H ap = none) (hp0 : H0 ap = none) (hp1 : ColsL K done.length ap H1) (n : k ∉ vis.map (·.1)) (e2 : Ex (upd H1 d (.dK ((vis ++ [(k, ap)]).map fun q => ((Sum.inr q.1 : Key), V.ref q.2)))) H2) :
    Cu K H0 d3 u3 d l (vis ++ [(k, ap)]) (wait ++ [k]) done (upd H2 l (.lst ((wait ++ [k]).map V.str))) := by
  have kk : ∀ a o, a ≠ d → a ≠ l → H1 a = some o → upd H2 l (.lst ((wait ++ [k]).map V.str)) a = some o := fun a o n1 n2 h => by
    rw [upd_ne n2]
    exact e2 _ _ (by rw [upd_ne n1]; exact h)
  have ins : ∀ a C dx fs, H1 a = some (.ins C dx fs) → upd H2 l (.lst ((wait ++ [k]).map V.str)) a = some (.ins C dx fs) := fun a C dx fs h => kk _ _ (fun z => by rw [z, e1 _ _ c.hd] at h; cases h) (fun z => by rw [z, e1 _ _ c.hl] at h; cases h) h
  have apl : ap ≠ l := fun z => by rw [z, c.hl] at hp; cases hp
  have apd : ap ≠ d := fun z => by rw [z, c.hd] at hp; cases hp
  refine ⟨fun a o e => ?_, c.d0, c.l0, c.nd3, c.nl3, by rw [upd_ne c.dl]; exact e2 _ _ upd_same, upd_same, fun q hq => ?_, fun q hq => ?_, ?_, by rw [List.map_append, c.pm, List.append_assoc] <;> rfl⟩
  · exact kk _ _ (fun z => by rw [z, upd_ne c.nd3, c.d0] at e; cases e) (fun z => by rw [z, upd_ne c.nl3, c.l0] at e; cases e) (e1 _ _ (c.ex _ _ e))
  · rcases List.mem_append.mp hq with hq | hq
    · have h := c.pa q hq
      refine ⟨h.1, h.2.keep (Nat.le_refl _) (fun o e => kk _ _ (fun z => ?_) h.1 (e1 _ _ e)) fun a C dx fs e => ins _ _ _ _ (e1 _ _ e)⟩
      obtain ⟨_, cvs, cs, h1, _⟩ := h
      rw [z, c.hd] at h1
      cases h1
    · rw [List.mem_singleton.mp hq]
      exact ⟨apl, hp1.keep (Nat.le_refl _) (fun o e => kk _ _ apd apl e) ins⟩
  · rcases List.mem_append.mp hq with hq | hq
    · exact c.fr q hq
    · rw [List.mem_singleton.mp hq]
      exact hp0
  · rw [List.map_append]
    refine List.nodup_append.mpr ⟨c.nd, by simp, fun x hx y hy e => n ?_⟩
    rw [show y = k by simpa using hy] at e
    rw [← e]
    exact hx
theorem cu_val {vis : List (Str × Addr)} {q : Str × Addr} (h : q ∈ vis) (nd : (vis.map (·.1)).Nodup) : valV (vis.map fun q => ((Sum.inr q.1 : Key), V.ref q.2)) (Sum.inr q.1 : Key) = some (.ref q.2) := val_at (List.mem_map.mpr ⟨q, h, rfl⟩) (by
  rw [List.map_map]
  have : ((fun x : Key × V => x.1) ∘ fun q : Str × Addr => ((Sum.inr q.1 : Key), V.ref q.2)) = Sum.inr ∘ (·.1) := rfl
  rw [this, ← List.map_map]
  exact List.Pairwise.map _ (fun _ _ h e => h (Sum.inr.inj e)) nd)
theorem cu_none {vis : List (Str × Addr)} {k : Str} (h : k ∉ vis.map (·.1)) : valV (vis.map fun q => ((Sum.inr q.1 : Key), V.ref q.2)) (Sum.inr k : Key) = none := val_none_of (xs := vis.map (·.1)) (by rw [List.map_map, List.map_map] <;> rfl) h
def Cl3 (B : Bk) (ks : List Str) (cs : List Col) (vis : List (Str × Addr)) : Prop := ∀ k ∈ ks, (k, true) ∉ B.kinds ∧ ∀ c ∈ cs, c.home = k → c.fall = true → c.goal ∈ vis.map (·.1)
theorem no_mkb {B : Bk} {vis : List (Str × Addr)} {done : List Str} (e : vis.map (·.1) = done) (h : Cl3 B done B.cols vis) {k : Str} (m : Mkb B k) : k ∉ done := by
  induction m with
  | op hk => exact fun z => (h _ z).1 hk
  | fl hc f _ ih => exact fun z => ih (by rw [← e]; exact (h _ z).2 _ hc rfl f)
def spUp (K : PySem.W.Frag) : Sp := fun vs H Q _ => ∃ b k a B, vs = [.ref b, .str k] ∧ BkAt K H b a B ∧ BkOk B ∧ Mkb B k ∧ ∀ p H', H p = none → Ex H H' → ColsL K 10 p H' → Q (.ref p) H'
set_option maxHeartbeats 1000000 in
theorem ok_up (T : Tf K mg) : C8.Cal P wd K mg base 2 "chain_up" (spUp K) [] := by
  refine cal_of (N := ["book", "kind", "chains", "waiting", "below", "column"]) T.d_chain_up (by decide +kernel) (fun vs H Q E ⟨b, k, a, B, e, _⟩ => by rw [e]; rfl) fun f cdv A outer s H vs Q E hr nd h => ?_
  obtain ⟨b, k0, a, B, rfl, hB, O, hk0, q⟩ := h
  refine b_setN 2 (xn_dispK1 (kk := Sum.inr k0) (R := fun y H => H y = some (.lst [])) (x_var 1) (xn_l (x_lst x_anil (by decide))) fun y H1 p u hp h2 => by rw [upd_ne (fun z => by rw [z, hp] at h2; cases h2)]; exact h2) fun d H1 d0 e1 ⟨a0, hd, a00, ha0⟩ => ?_
  refine b_setN 3 (xn_l (x_lst (x_acons (x_var 1) x_anil))) fun l H2 l0 e2 hl => ?_
  have nkd : ∀ (kvs : List (Key × V)), (∀ C dx fs, HO.dK kvs ≠ .ins C dx fs) ∧ ∀ xs, HO.dK kvs ≠ .lst xs := fun _ => ⟨fun _ _ _ z => (nomatch z), fun _ z => (nomatch z)⟩
  have nfz : ∀ (od : Obj) (kvs : List (Key × V)), (∀ C dx fs, HO.frz od (.dK kvs) ≠ .ins C dx fs) ∧ ∀ xs, HO.frz od (.dK kvs) ≠ .lst xs := fun _ _ => ⟨fun _ _ _ z => (nomatch z), fun _ z => (nomatch z)⟩
  have wl := paired_len hB.hv
  have hom : ∀ k, Mkb B k → k ∈ B.kN := fun k m => by
    cases m with
    | op h => exact List.mem_map.mpr ⟨_, h, rfl⟩
    | fl h f m => exact (O.cs _ h).2.1
  have C0 : Cu K H a.d3 (.dK ((B.cols.zip a.vs).map fun p => (Sum.inr p.1.word, p.2))) d l [(k0, a0)] [k0] [] H2 := by
    refine ⟨by rw [upd_self hB.hc]; exact e1.trans e2, d0, fresh_back e1 l0, (fun z => by rw [z, hB.hc] at d0; cases d0), (fun z => by have := fresh_back e1 l0; rw [z, hB.hc] at this; cases this), e2 _ _ hd, hl, fun q hq => ?_, fun q hq => ?_, by simp, rfl⟩
    · rw [List.mem_singleton.mp hq]
      exact ⟨(fun z => by rw [show a0 = l from z] at ha0; rw [ha0] at l0; cases l0), [], [], e2 _ _ ha0, .nil, Nat.le_refl _, fun c hc => absurd hc (List.not_mem_nil)⟩
    · rw [List.mem_singleton.mp hq]
      exact a00
  have k10 : B.kN.length ≤ 10 := by
    have := O.l1
    unfold Bk.kN
    rw [List.length_map]
    exact this
  refine b_while (fun m σ' H' => ∃ vis wait done x4 x5, σ' = [some (.ref b), some (.str k0), some (.ref d), some (.ref l), x4, x5] ∧ Cu K H a.d3 (.dK ((B.cols.zip a.vs).map fun p => (Sum.inr p.1.word, p.2))) d l vis wait done H' ∧ Cl3 B done B.cols vis ∧ k0 ∈ vis.map (·.1) ∧ (∀ k ∈ vis.map (·.1), k ∈ B.kN) ∧ m = B.kN.length - done.length) B.kN.length ⟨_, _, [], none, none, rfl, C0, (fun k hk => nomatch hk), by simp, fun k hk => by simp at hk; rw [hk]; exact hom _ hk0, rfl⟩ ?_
  rintro m σ' H3 ⟨vis, wait, done, x4, x5, rfl, C, cl, kin, kk, rfl⟩
  have visle : vis.length ≤ B.kN.length := by
    have := nd_le C.nd kk
    rw [List.length_map] at this
    exact this
  have dlen : done.length + wait.length = vis.length := by
    have := congrArg List.length C.pm
    rw [List.length_map, List.length_append] at this
    exact this.symm
  obtain ⟨k, wait, rfl⟩ : ∃ k w', wait = k :: w' := by
    cases wait with
    | nil =>
      have e0 : vis.map (·.1) = done := by rw [C.pm, List.append_nil]
      exact absurd (by rw [← e0]; exact kin) (no_mkb e0 cl hk0)
    | cons k w' => exact ⟨k, w', rfl⟩
  rw [List.length_cons] at dlen
  have hB3 : BkAt K H3 b a B := hB.mono (by have := C.ex; rw [upd_self hB.hc] at this; exact this)
  have kv : k ∈ vis.map (·.1) := by rw [C.pm]; simp
  obtain ⟨ko, hko, eko⟩ := List.mem_map.mp (kk k kv)
  subst eko
  have gk : DGet H3 a.d1 (.str ko.1) (some (.bl ko.2)) := by
    have g := get_s (kvs := kindD B.kinds) (k := ko.1) (.inl hB3.hk : Rd H3 a.d1 _)
    rw [val_kind O hko] at g
    exact g
  obtain ⟨q', hq', eq'⟩ := List.mem_map.mp kv
  obtain ⟨k1, ak⟩ := q'
  have eq' : k1 = ko.1 := eq'
  subst eq'
  refine ⟨!ko.2, t_not (t_val (x_dget hr (x_fld (x_var 0) hB3.hb T.cl_B T.nB_open_kinds bkF_1) (x_ixL (x_var 3) x_int (sq_of C.hl) (at_0 _ _)) gk)), fun hb H4 e4 => ?_, fun hb H4 e4 => ?_⟩
  · have ko2 : ko.2 = false := by cases h : ko.2 <;> rw [h] at hb <;> first | rfl | cases hb
    have C4 := C.mono e4 (nkd _).1 (nkd _).2
    refine b_setQ 4 (e_pop0 C4.hl (x_var 3) x_int fun H5 e5 => ?_)
    have C5 := (C4.mono e5 (nkd _).1 (nkd _).2)
    have cur5 : ak ≠ l ∧ ColsL K done.length ak (upd H5 l (.lst (wait.map V.str))) := ⟨(C5.pa _ hq').1, (C5.pa _ hq').2.keep (Nat.le_refl _) (fun o e => by rw [upd_ne (C5.pa _ hq').1]; exact e) fun a C dx fs e => by rw [upd_ne (fun z => by rw [z, C5.hl] at e; cases e)]; exact e⟩
    have C6 := C5.pop
    have hB6 : BkAt K (upd H5 l (.lst (wait.map V.str))) b a B := hB.mono (by have := C6.ex; rw [upd_self hB.hc] at this; exact this)
    refine b_forV hB6.hc (fun od => x_fld (x_var 0) (hB6.lock hB6.hc).hb T.cl_B T.nB_column_table bkF_3) (pg_name (i := 5) nd rfl (.inl rfl)) (fun od i σ' H' => ∃ vis wait x5, σ' = [some (.ref b), some (.str k0), some (.ref d), some (.ref l), some (.str ko.1), x5] ∧ Cu K H a.d3 (.frz od (.dK ((B.cols.zip a.vs).map fun p => (Sum.inr p.1.word, p.2)))) d l vis wait (done ++ [ko.1]) H' ∧ Cl3 B done B.cols vis ∧ (∀ c ∈ B.cols.take i, c.home = ko.1 → c.fall = true → c.goal ∈ vis.map (·.1)) ∧ k0 ∈ vis.map (·.1) ∧ (∀ k ∈ vis.map (·.1), k ∈ B.kN) ∧ (ko.1, ak) ∈ vis ∧ ak ≠ l ∧ ColsL K done.length ak H') (fun od H7 e7 => ⟨vis, wait, x5, rfl, C6.move (fun a' o n e => e7 _ _ (by rw [upd_ne n]; exact e)) (e7 _ _ upd_same) (nkd _).1 (nkd _).2, cl, fun c hc => by simp at hc, kin, kk, hq', cur5.1, cur5.2.keep (Nat.le_refl _) (fun o e => e7 _ _ (by rw [upd_ne (fun z => by obtain ⟨_, _, h, _⟩ := cur5.2; rw [z, hB6.hc] at h; cases h)]; exact e)) fun a' C dx fs e => e7 _ _ (by rw [upd_ne (fun z => by rw [z, hB6.hc] at e; cases e)]; exact e)⟩) (fun od i σ' H' ⟨vis, wait, x5, _, c, _⟩ => c.h3) ?_ ?_
    · rintro od i kx x σ' H7 hk ⟨vis, wait, x5, rfl, C7, cl, cp, kin, kk, hq, al, cl7⟩
      have hw : ∃ c, B.cols[i]? = some c ∧ a.vs[i]? = some x := by
        rw [List.getElem?_map] at hk
        obtain ⟨p, hp, e⟩ := Option.map_eq_some_iff.mp hk
        obtain ⟨h1, h2⟩ := List.getElem?_zip_eq_some.mp hp
        injection e with _ e2
        exact ⟨p.1, h1, e2 ▸ h2⟩
      obtain ⟨c, hc, hx⟩ := hw
      obtain ⟨c', hc', hcol⟩ := prd_at hB.hv hx
      rw [hc] at hc'
      cases hc'
      have hcm : c ∈ B.cols := List.mem_of_getElem? hc
      obtain ⟨pc, dx, rfl, hpc⟩ := col_lock (od := od) hB.hc hcol
      have hpc := C7.ex _ _ hpc
      have tk : ∀ vis' : List (Str × Addr), (∀ c ∈ B.cols.take i, c.home = ko.1 → c.fall = true → c.goal ∈ vis'.map (·.1)) → (c.home = ko.1 → c.fall = true → c.goal ∈ vis'.map (·.1)) → ∀ c ∈ B.cols.take (i + 1), c.home = ko.1 → c.fall = true → c.goal ∈ vis'.map (·.1) := fun vis' h1 h2 c' hc' => by
        rw [List.take_add_one, hc] at hc'
        rcases List.mem_append.mp hc' with z | z
        · exact h1 c' z
        · rw [show c' = c by simpa using z]
          exact h2
      have bl : B.cols.length ≤ 10 := O.l2
      refine b_if (b := decide (c.home = ko.1) && (c.fall && !(valV (vis.map fun q => ((Sum.inr q.1 : Key), V.ref q.2)) (Sum.inr c.goal : Key)).isSome)) (t_w (w_and (t_eqS (x_fld (x_var 5) hpc T.cl_C T.nC_home (colF_home c)) (x_var 4)) fun _ => w_and (t_is (t_eqS (x_fld (x_var 5) hpc T.cl_C T.nC_rule (colF_rule c)) (x_gl T.s_FALL)) (by cases c.fall <;> decide)) fun _ => w_and1 (t_niD hr (x_fld (x_var 5) hpc T.cl_C T.nC_goal (colF_goal c)) (x_var 2) (get_s (.inl C7.hd))))) (fun hb2 H8 e8 => ?_) fun hb2 H8 e8 => b_nil (b_nil ⟨vis, wait, _, rfl, C7.mono e8 (nfz _ _).1 (nfz _ _).2, cl, tk vis cp (fun h1 h2 => ?_), kin, kk, hq, al, cl7.keep (Nat.le_refl _) (fun o e => e8 _ _ e) fun a C dx fs e => e8 _ _ e⟩)
      · simp only [Bool.and_eq_true, Bool.not_eq_true', decide_eq_true_eq] at hb2
        obtain ⟨hb3, hb4, hb5⟩ := hb2
        have nk : c.goal ∉ vis.map (·.1) := fun z => by
          obtain ⟨q2, hq2, e2⟩ := List.mem_map.mp z
          rw [← e2, cu_val hq2 C7.nd] at hb5
          cases hb5
        have C8 := C7.mono e8 (nfz _ _).1 (nfz _ _).2
        have cl8 : ColsL K done.length ak H8 := cl7.keep (Nat.le_refl _) (fun o e => e8 _ _ e) fun a C dx fs e => e8 _ _ e
        obtain ⟨cvs, cs, h1, h2, h3, h4⟩ := cl8
        have hpc8 := e8 _ _ hpc
        have l2 := paired_len h2
        have vl8 : vis.length ≤ B.kN.length := by
          have := nd_le C7.nd kk
          rw [List.length_map] at this
          exact this
        have dl8 : done.length + 1 + wait.length = vis.length := by
          have := congrArg List.length C7.pm
          rw [List.length_map, List.length_append, List.length_append, List.length_singleton] at this
          exact this.symm
        have g : DGet H8 d (.str ko.1) (some (.ref ak)) := by
          have g := get_s (k := ko.1) (.inl C8.hd : Rd H8 d _)
          rw [cu_val hq C8.nd] at g
          exact g
        refine b_dputN (H4 := fun p H => upd H d (.dK (putK (vis.map fun q => ((Sum.inr q.1 : Key), V.ref q.2)) (Sum.inr c.goal : Key) (.ref p)))) hr (xn_l (x_lst (x_starS (x_dget hr (x_var 2) (x_var 4) g) (.inr (sq_of h1)) (x_acons (x_var 5) x_anil)) (by rw [List.length_append, List.length_singleton]; omega))) (x_var 2) (x_fld (x_var 5) hpc8 T.cl_C T.nC_goal (colF_goal c)) (fun ap H9 hp9 e9 hr9 => ⟨DPut.k (k := Sum.inr c.goal) (e9 _ _ C8.hd) (sz_lt (by rw [List.length_map]; omega)), ?_⟩) fun v H1 H2 e z => e _ _ z
        rw [putK_new _ (cu_none nk)]
        have nd5 : pc ≠ d := fun z => by rw [z, C8.hd] at hpc8; cases hpc8
        refine b_app (xs := wait.map V.str) (by rw [upd_ne (Ne.symm C8.dl)]; exact e9 _ _ C8.hl) (x_var 3) (x_fld (x_var 5) (by rw [upd_ne nd5]; exact e9 _ _ hpc8) T.cl_C T.nC_goal (colF_goal c)) (by rw [List.length_map]; omega) fun H10 e10 => b_nil (b_nil ?_)
        have C10 := C8.push e9 hp9 (by
          have := fresh_back C8.ex hp9
          rw [upd_ne (fun z => by rw [z, C8.h3] at hp9; cases hp9)] at this
          exact this) (⟨cvs ++ [.ref pc], cs ++ [c], hr9, paired_snoc (Paired.mapP h2 fun v c ⟨q, dx, e, h⟩ => ⟨q, dx, e, e9 _ _ h⟩) ⟨pc, dx, rfl, e9 _ _ hpc8⟩, by rw [List.length_append, List.length_append, List.length_singleton, List.length_singleton]; omega, fun c' hc' => by
            rcases List.mem_append.mp hc' with z | z
            · exact h4 c' z
            · rw [List.mem_singleton.mp z]
              exact Nat.le_trans (O.cs c hcm).1.hi (by decide)⟩ : ColsL K (done ++ [ko.1]).length ap H9) nk (H2 := H10) (by rw [List.map_append]; exact e10)
        have kkp : ∀ a' o, a' ≠ d → a' ≠ l → H8 a' = some o → upd H10 l (.lst ((wait ++ [c.goal]).map V.str)) a' = some o := fun a' o n1 n2 h => by
          rw [upd_ne n2]
          exact e10 _ _ (by rw [upd_ne n1]; exact e9 _ _ h)
        rw [List.map_append] at C10 kkp
        refine ⟨vis ++ [(c.goal, ap)], wait ++ [c.goal], _, rfl, C10, fun k hk => ⟨(cl k hk).1, fun c hc h1 h2 => by rw [List.map_append]; exact List.mem_append_left _ ((cl k hk).2 c hc h1 h2)⟩, tk _ (fun c hc h1 h2 => by rw [List.map_append]; exact List.mem_append_left _ (cp c hc h1 h2)) (fun _ _ => by rw [List.map_append]; exact List.mem_append_right _ (List.mem_singleton.mpr rfl)), by rw [List.map_append]; exact List.mem_append_left _ kin, fun k hk => ?_, List.mem_append_left _ hq, al, ⟨cvs, cs, kkp _ _ (fun z => by rw [z, C8.hd] at h1; cases h1) al h1, Paired.mapP h2 fun v c ⟨q, dx, e, h⟩ => ⟨q, dx, e, kkp _ _ (fun z => by rw [z, C8.hd] at h; cases h) (fun z => by rw [z, C8.hl] at h; cases h) h⟩, h3, h4⟩⟩
        rw [List.map_append] at hk
        rcases List.mem_append.mp hk with hk | hk
        · exact kk k hk
        · rw [show k = c.goal by simpa using hk]
          exact (O.cs c hcm).2.2
      · rw [decide_eq_true h1, h2] at hb2
        simp only [Bool.true_and, Bool.not_eq_false'] at hb2
        refine Classical.byContradiction fun z => ?_
        rw [cu_none z] at hb2
        cases hb2
    · rintro od σ' H7 ⟨vis, wait, x5, rfl, C7, cl, cp, kin, kk, hq, al, cl7⟩
      have lz : ((B.cols.zip a.vs).map fun p => ((Sum.inr p.1.word : Key), p.2)).length = B.cols.length := by rw [List.length_map, List.length_zip, wl, Nat.min_self]
      rw [lz, List.take_length] at cp
      refine b_nil ⟨B.kN.length - (done ++ [ko.1]).length, by rw [List.length_append, List.length_singleton]; omega, vis, wait, done ++ [ko.1], _, _, rfl, C7.move (fun a' o n e => by rw [upd_ne n]; exact e) upd_same (nfz _ _).1 (nfz _ _).2, ?_, kin, kk, rfl⟩
      intro k hk
      rcases List.mem_append.mp hk with hk | hk
      · exact cl k hk
      · rw [List.mem_singleton.mp hk]
        refine ⟨fun z => ?_, fun c hc h1 h2 => cp c hc h1 h2⟩
        have nk := (List.nodup_append.mp O.nd).1
        have g1 := val_kind O hko
        have g2 := val_kind O z
        rw [g2] at g1
        cases ko2' : ko.2 with
        | true => rw [ko2'] at ko2; cases ko2
        | false => rw [ko2'] at g1; cases g1
  · have C4 := C.mono e4 (nkd _).1 (nkd _).2
    have g : DGet H4 d (.str ko.1) (some (.ref ak)) := by
      have g := get_s (k := ko.1) (.inl C4.hd : Rd H4 d _)
      rw [cu_val hq' C4.nd] at g
      exact g
    refine b_ret (x_dget hr (x_var 2) (x_ixL (x_var 3) x_int (sq_of C4.hl) (at_0 _ _)) g) fun H5 e5 => q ak H5 (C4.fr _ hq') ?_ ((C4.pa _ hq').2.keep (by omega) (fun o e => e5 _ _ e) fun a C dx fs e => e5 _ _ e)
    have := C4.ex
    rw [upd_self hB.hc] at this
    exact this.trans e5
end
end Ls
/-! LsN9 -/
set_option Elab.async false
set_option linter.all false
set_option maxRecDepth 100000
namespace Lx
open PySem PySem.Spec PyProof.Rows L2 Evl
section
variable {X : Cx} {tg e a b : Expr} {body rest : List Stmt} {σ : L2.St} {H : Hp} {D : Ends} {pos p0 p1 p2 p3 px py pt pt2 : Pos} {g : TG} {kt k2 : Nat} {x y : Str}
/-- for .. in reversed(range(n)) -/
theorem b_forRev {n : Nat} (hmr : X.mg "reversed" = none) (hm : X.mg "range" = none) (h : XE X e σ H (.int (n : Int))) (hn : n ≤ 100000) (hg : PG X tg g) (Pv : Nat → L2.St → Hp → Prop) (h0 : ∀ H1, Ex H H1 → Pv 0 σ H1)
    (hst : ∀ (i : Nat) σ' H', i < n → Pv i σ' H' → g (.int ((n - 1 - i : Nat) : Int)) σ' H' fun σ2 H2 => bT X body (inLoop X rest D (Pv (i + 1))) σ2 H2) (hd : ∀ σ' H', Pv n σ' H' → bT X rest D σ' H')
    (hp : PassesOwn (model X.prog X.w) X.A X.env X.xe := by exact PassesOwn.never) (hc : X.calm = true := by rfl) (hgr : Gl X "reversed" := by rfl) (hgl : Gl X "range" := by rfl) (na : starEach [e] X.env = (false, eval e X.env) :: starEach [] X.env := by rfl) (nb : starEach [.Call (.Name "range" p1) [e] [] p2] X.env = (false, eval (.Call (.Name "range" p1) [e] [] p2) X.env) :: starEach [] X.env := by rfl)
    (hs : ∀ x, foldedSetIterable (.Call (.Name "reversed" p0) [.Call (.Name "range" p1) [e] [] p2] [] p3) X.env x = pure x := by intro _; rfl) :
    bT X (.For tg (.Call (.Name "reversed" p0) [.Call (.Name "range" p1) [e] [] p2] [] p3) body [] pos :: rest) D σ H :=
  b_cons (ws (ps_for hp hc (pi_revR hgr hmr (prg_1 hgl hm peT na) nb) hg pbT hs) (h H (Ex.refl H) _ fun H1 e1 => ⟨(n : Int), rfl, by omega, by omega, by omega, by omega, by
    have e0 : ((n : Int) - 0).toNat = n := by omega
    rw [e0]
    exact for_it walk_rangeC Pv (h0 H1 e1) (fun _ _ _ _ _ => trivial) (fun i x σ' H' H'' hi q y => by
      obtain ⟨rfl, rfl⟩ := y
      have ev : (0 : Int) + ((n : Nat) : Int) - 1 + ((i : Nat) : Int) * (-1) = ((n - 1 - i : Nat) : Int) := by omega
      have z := hst i σ' _ hi q
      rw [← ev] at z
      exact z) hd⟩))
/-- a, b = .., .. -/
theorem b_par (i j : Nat) {R : List V → Hp → Prop} (h : XAP X [a, b] σ H R) (q : ∀ vs H1, Ex H H1 → R vs H1 → ∃ v w, vs = [v, w] ∧ bT X rest D ((σ.set i (some v)).set j (some w)) H1) (hc : X.calm = true := by rfl) (hN : X.N.Nodup := by assumption) (hi : X.N[i]? = some x := by rfl) (hj : X.N[j]? = some y := by rfl) (hij : i ≠ j := by decide)
    (hx : X.env.scope.names.lookup x = some .local := by rfl) (hy : X.env.scope.names.lookup y = some .local := by rfl)
    (hw : swappedStores [.Tuple [.Name x px, .Name y py] kt pt] (.Tuple [a, b] k2 pt2) X.env = pure (some [x, y]) := by rfl) (hs : swapsWithSole [.Tuple [.Name x px, .Name y py] kt pt] (.Tuple [a, b] k2 pt2) pos.line X.env = pure false := by rfl) :
    bT X (.Assign [.Tuple [.Name x px, .Name y py] kt pt] (.Tuple [a, b] k2 pt2) pos :: rest) D σ H :=
  b_cons (ws (L2.ps_par hc hN hi hj hij hx hy paT hw hs) (h H (Ex.refl H) _ fun vs H1 e1 r => q vs H1 e1 r))
/-- x -= e -/
theorem b_subI (i : Nat) {u j : Int} (hσ : σ[i]? = some (some (.int u))) (h : XE X e σ H (.int j)) (q : ∀ H1, Ex H H1 → bT X rest D (σ.set i (some (.int (u - j)))) H1) (hN : X.N.Nodup := by assumption) (hi : X.N[i]? = some x := by rfl) (hx : Loc X.env.scope x := by first | exact Or.inl rfl | exact Or.inr rfl)
    (hf : X.fn x = true ∨ X.env.scope.names.lookup x = some .local := by first | exact .inl rfl | exact .inr rfl) : bT X (.AugAssign (.Name x px) .Sub e pos :: rest) D σ H :=
  b_cons (ws (L2.ps_aug hN hi hx peT ip_sub hf) ⟨.int u, hσ, h H (Ex.refl H) _ fun H1 e1 => ⟨u, j, rfl, rfl, q H1 e1⟩⟩)
/-- o.f += e -/
theorem b_fldAdd {f : Str} {ad C dx : Addr} {fs : List (Str × V)} {u j : Int} (ho : XE X a σ H (.ref ad)) (hi : H ad = some (.ins C dx fs)) (hc : Cls X.K C) (hn : NoAttr X.K C f) (hl : fs.lookup f = some (.int u)) (hz : fs.length < 1000) (hv : XE X e σ H (.int j)) (q : ∀ H1, Ex H H1 → bT X rest D σ (upd H1 ad (.ins C dx (putF f (.int (u + j)) fs)))) :
    bT X (.AugAssign (.Attribute a f px) .Add e pos :: rest) D σ H :=
  b_cons (ws (ps_fldaug peT peT in_add) (ho H (Ex.refl H) _ fun H1 e1 => ⟨ad, C, dx, fs, .int u, rfl, e1 _ _ hi, hc, hn, hl, hv H1 e1 _ fun H2 e2 => ⟨u, j, rfl, rfl, dx, fs, e2 _ _ (e1 _ _ hi), hz, q H2 (e1.trans e2)⟩⟩))
theorem xp_nf {S : Addr → Hp → Prop} (h : XN X e σ H S) : XP X e σ H (fun v H2 => ∃ p, v = .ref p ∧ H p = none ∧ S p H2) := fun H1 e1 Q q => h H1 e1 Q fun p H2 hp e2 s2 => q _ H2 e2 ⟨p, rfl, fresh_back e1 hp, s2⟩
theorem at_i {xs : List V} {i : Nat} {v : V} (h : xs[i]? = some v) : atI xs ((i : Nat) : Int) = some v := by
  have hl : i < xs.length := (List.getElem?_eq_some_iff.mp h).1
  unfold atI ixN
  rw [if_pos (by omega), if_pos (by omega)]
  simpa using h
end
end Lx
/-! LsV8 -/
set_option Elab.async false
set_option linter.all false
set_option maxRecDepth 100000
namespace Ls
open PySem PySem.Spec PyProof.Rows L2 Lx Ln
open Evl (Ex Ex.refl Ex.trans Ex.mut Ex.new Ev EvT EvL EvU EvA ex_l ex_t ex_rd sq_of st_of sz_of sz_lt fresh_back)
section
variable {P : Program} {wd : World} {K : PySem.W.Frag} {mg : Str → Option Value} {base : Heap}
/-- a list that is at most so long -/
def LenL (n : Nat) (p : Addr) (H : Hp) : Prop := ∃ vs, H p = some (.lst vs) ∧ vs.length ≤ n
def spPut' (K : PySem.W.Frag) : Sp := fun vs H Q _ => ∃ p n i, vs = [.ref p, .int i] ∧ ColsL K n p H ∧ n ≤ 100 ∧ ∀ r H', H r = none → Ex H H' → LenL n r H' → Q (.ref r) H'
theorem ok_put_chain (T : Tf K mg) : C8.Cal P wd K mg base 1 "put_chain" (spPut' K) [] := by
  refine cal_of (N := ["chain", "first", "found", "owners", "at"]) T.d_put_chain (by decide +kernel) (fun vs H Q E ⟨p, n, i, e, _⟩ => by rw [e]; rfl) fun f cdv A outer s H vs Q E hr nd h => ?_
  obtain ⟨p, n, i0, rfl, ⟨cvs, cs, hp, hcs, hn, hwl⟩, n100, q⟩ := h
  have lc := paired_len hcs
  refine b_par 2 3 (xap_cons (xp_nf (xn_l (x_lst x_anil))) (xap_cons (xp_n (xn_u (x_tup x_anil))) (xap_e x_anil) fun v H1 H2 e ⟨a, h1, h2⟩ => ⟨a, h1, e _ _ h2⟩) fun v H1 H2 e ⟨a, h1, h0, h2⟩ => ⟨a, h1, h0, e _ _ h2⟩) fun vs H1 e1 ⟨v, w, ev, ⟨r, er, r0, hr1⟩, v2, w2, ew, ⟨o, eo, ho⟩, e0⟩ => ⟨.ref r, .ref o, by rw [ev, er, ew, eo, e0], ?_⟩
  refine b_forRev (n := cvs.length) T.b_reversed T.b_range (x_lenL T.b_len (x_var 0) (sq_of (e1 _ _ hp))) (by omega) (pg_name (i := 4) nd rfl (.inl rfl)) (fun i σ' H' => ∃ v3 x4 ws, σ' = [some (.ref p), some (.int i0), some (.ref r), some v3, x4] ∧ Ex H H' ∧ H' r = some (.lst ws) ∧ ws.length = i) (fun H2 e2 => ⟨_, none, [], rfl, e1.trans e2, e2 _ _ hr1, rfl⟩) ?_ ?_
  · rintro i σ' H2 hi ⟨v3, x4, ws, rfl, e2, hws, lw⟩
    obtain ⟨cv, hcv⟩ : ∃ cv, cvs[cvs.length - 1 - i]? = some cv := ⟨_, List.getElem?_eq_getElem (by omega)⟩
    obtain ⟨c, hc, pc, dx, rfl, hpc⟩ := prd_at hcs hcv
    have hpc2 := e2 _ _ hpc
    have hp2 := e2 _ _ hp
    refine b_appP hws (x_var 2) (xp_n (xn_u (x_tup (x_acons x_str (x_acons (x_fld (x_ixL (x_var 0) (x_var 4) (sq_of hp2) (at_i hcv)) hpc2 T.cl_C T.nC_goal (colF_goal c)) (x_acons (x_add (x_var 1) (x_var 4)) (x_acons (x_var 3) x_anil))))))) (by omega) fun v H3 e3 _ => ?_
    have pr : p ≠ r := fun z => by rw [z, r0] at hp; cases hp
    have cr : pc ≠ r := fun z => by rw [z, hws] at hpc2; cases hpc2
    have x3 : Ex H (upd H3 r (.lst (ws ++ [v]))) := Ex.mut (e2.trans e3) r0
    refine b_setP 3 (xp_tup (R := fun vs _ => ∃ v r, vs = v :: r ∧ (∃ p, v = V.ref p ∧ True) ∧ r = []) (xap_cons (P := fun v _ => ∃ p, v = V.ref p ∧ True) (xp_imp (xp_n (xn_u (x_tup (x_acons (x_fld (x_ixL (x_var 0) (x_var 4) (sq_of (by rw [upd_ne pr]; exact e3 _ _ hp2)) (at_i hcv)) (by rw [upd_ne cr]; exact e3 _ _ hpc2) T.cl_C T.nC_word (colF_word c)) (x_acons (x_add (x_var 1) (x_var 4)) x_anil))))) fun v H2 _ h => by
      obtain ⟨p, h, _⟩ := h
      exact ⟨p, h, trivial⟩) (xap_e x_anil) fun v H1 H2 _ h => h) (fun vs H ⟨v, r, h1, _, h2⟩ => by rw [h1, h2]; show 1 ≤ 100000; decide) fun vs H1 H2 _ h => h) fun w H4 e4 _ => b_nil ⟨_, _, ws ++ [v], rfl, x3.trans e4, e4 _ _ upd_same, by rw [List.length_append, List.length_singleton, lw]⟩
  · rintro σ' H2 ⟨v3, x4, ws, rfl, e2, hws, lw⟩
    exact b_ret (x_var 2) fun H3 e3 => q r H3 r0 (e2.trans e3) ⟨ws, e3 _ _ hws, by omega⟩
def spMark' (K : PySem.W.Frag) : Sp := fun vs H Q _ => ∃ p n i j, vs = [.ref p, .int i, .int j] ∧ ColsL K n p H ∧ (∃ v ws, H p = some (.lst (v :: ws))) ∧ n ≤ 100 ∧ ∀ r H', H r = none → Ex H H' → LenL (1 + 2 * n) r H' → Q (.ref r) H'
theorem ok_mark_by (T : Tf K mg) : C8.Cal P wd K mg base 1 "mark_by_chain" (spMark' K) [] := by
  refine cal_of (N := ["chain", "first", "number", "at", "found", "below"]) T.d_mark_by_chain (by decide +kernel) (fun vs H Q E ⟨p, n, i, j, e, _⟩ => by rw [e]; rfl) fun f cdv A outer s H vs Q E hr nd h => ?_
  obtain ⟨p, n, i0, j0, rfl, ⟨cvs, cs, hp, hcs, hn, hwl⟩, ⟨v0, ws0, hne⟩, n100, q⟩ := h
  rw [hp] at hne
  injection hne with hne
  injection hne with hne
  have l1 : 1 ≤ cvs.length := by rw [hne, List.length_cons]; omega
  have lc := paired_len hcs
  have col : ∀ k, k < cvs.length → ∃ pc dx c, cvs[k]? = some (.ref pc) ∧ H pc = some (.ins (cC K) dx (colF c)) ∧ c.word.length ≤ 100 := fun k hk => by
    obtain ⟨c, hc, pc, dx, e, h⟩ := prd_at hcs (List.getElem?_eq_getElem hk)
    exact ⟨pc, dx, c, by rw [List.getElem?_eq_getElem hk, e], h, hwl c (List.mem_of_getElem? hc)⟩
  obtain ⟨pc, dx, c, hcv, hpc, hwc⟩ := col (cvs.length - 1) (by omega)
  refine b_set 3 (x_is (x_sub (x_lenL T.b_len (x_var 0) (sq_of hp)) x_int) (w := .int ((cvs.length - 1 : Nat) : Int)) (by congr 1; omega)) fun H1 e1 => ?_
  refine b_setN 4 (xn_lstP (R := fun vs _ => ∃ v r, vs = v :: r ∧ True ∧ r = []) (xap_cons (P := fun _ _ => True) (xp_imp (xp_n (xn_u (x_tup (x_acons x_str (x_acons (x_fld (x_ixL (x_var 0) (x_var 3) (sq_of (e1 _ _ hp)) (at_i hcv)) (e1 _ _ hpc) T.cl_C T.nC_goal (colF_goal c)) (x_acons (x_add (x_var 1) (x_var 3)) x_anil)))))) fun v H2 _ _ => trivial) (xap_e x_anil) fun v H1 H2 _ h => h) (fun vs H ⟨v, r, h1, _, h2⟩ => by rw [h1, h2]; show 1 ≤ 100000; decide) fun vs H1 H2 _ h => h) fun r H2 r0 e2 ⟨ws, hr2, v, rr, ew, _, er⟩ => ?_
  have lw : ws.length = 1 := by rw [ew, er]; rfl
  obtain ⟨th, hH⟩ := T.s_HELPER
  refine b_while (fun m σ' H' => ∃ (k : Nat) (ws : List V) (x5 : Option V), k ≤ cvs.length ∧ σ' = [some (.ref p), some (.int i0), some (.int j0), some (.int ((k : Int) - 1)), some (.ref r), x5] ∧ Ex H H' ∧ H' r = some (.lst ws) ∧ ws.length ≤ 1 + 2 * (cvs.length - k) ∧ m = k) cvs.length ⟨cvs.length, ws, none, Nat.le_refl _, ?_, e1.trans e2, hr2, by omega, rfl⟩ ?_
  · have : ((cvs.length - 1 : Nat) : Int) = (cvs.length : Int) - 1 := by omega
    rw [← this] <;> rfl
  rintro m σ' H3 ⟨k, ws, x5, hk, rfl, e3, hws, lw, em⟩
  have r00 : H r = none := fresh_back e1 r0
  refine ⟨decide ((0 : Int) ≤ (k : Int) - 1), t_ge (x_var 3) x_int, fun hb H4 e4 => ?_, fun hb H4 e4 => b_ret (x_var 4) fun H5 e5 => q r H5 r00 ((e3.trans e4).trans e5) ⟨ws, e5 _ _ (e4 _ _ hws), by omega⟩⟩
  have hk1 : 1 ≤ k := by have := of_decide_eq_true hb; omega
  obtain ⟨pc, dx, c, hcv, hpc, hwc⟩ := col (k - 1) (by omega)
  have ek : ((k : Int) - 1) = ((k - 1 : Nat) : Int) := by omega
  refine b_setP 5 (xp_ifE (P := fun _ _ => True) (t_eq (x_var 3) x_int) (fun _ => xp_imp (xp_e (x_var 2)) fun _ _ _ _ => trivial) fun _ => xp_imp (xp_e (x_sub (x_add (x_var 1) (x_var 3)) x_int)) fun _ _ _ _ => trivial) fun vb H5 e5 _ => ?_
  have x5' := (e3.trans e4).trans e5
  refine b_extN (S := fun p H => ∃ vs, H p = some (.lst vs) ∧ ∃ v r, vs = v :: r ∧ True ∧ ∃ v2 r2, r = v2 :: r2 ∧ True ∧ r2 = []) (e5 _ _ (e4 _ _ hws)) (x_var 4) (xn_lstP (R := fun vs _ => ∃ v r, vs = v :: r ∧ True ∧ ∃ v2 r2, r = v2 :: r2 ∧ True ∧ r2 = []) (xap_cons (P := fun _ _ => True) (R := fun r _ => ∃ v2 r2, r = v2 :: r2 ∧ True ∧ r2 = []) (xp_imp (xp_tup (R := fun vs _ => ∃ r, vs = V.str "look" :: r ∧ ∃ r2, r = V.int 2 :: r2 ∧ ∃ r3, r2 = V.str ("spread " ++ c.word) :: r3 ∧ ∃ v4 r4, r3 = v4 :: r4 ∧ True ∧ r4 = []) (xap_x x_str (xap_x (x_glob (v := .int 2) hH ⟨th, rfl⟩) (xap_x (x_is (x_join (j_str (j_fmt (x_fld (x_ixL (x_var 0) (x_is (x_var 3) (by rw [ek])) (sq_of (x5' _ _ hp)) (at_i hcv)) (x5' _ _ hpc) T.cl_C T.nC_word (colF_word c)) j_nil (by omega) ?_) ?_)) ?_) (xap_cons (P := fun _ _ => True) (R := fun r _ => r = []) (xp_imp (xp_n (xn_u (x_tup (x_acons (x_var 5) x_anil)))) fun _ _ _ _ => trivial) (xap_e x_anil) fun _ _ _ _ h => h)))) (fun vs H ⟨r, h1, r2, h2, r3, h3, v4, r4, h4, _, h5⟩ => by rw [h1, h2, h3, h4, h5]; show 4 ≤ 100000; decide) fun vs H1 H2 _ h => h) fun _ _ _ _ => trivial) (xap_cons (P := fun _ _ => True) (R := fun r _ => r = []) (xp_imp (xp_n (xn_u (x_tup (x_acons x_str (x_acons (x_glob (v := .int 2) hH ⟨th, rfl⟩) x_anil))))) fun _ _ _ _ => trivial) (xap_e x_anil) fun _ _ _ _ h => h) fun _ _ _ _ h => h) (fun vs H ⟨v, r, h1, _, v2, r2, h2, _, h3⟩ => by rw [h1, h2, h3]; show 2 ≤ 100000; decide) fun vs H1 H2 _ h => h) (fun p H1 _ h => ?_) fun pl ys H6 e6 pl0 h hys => ?_
  · have : Str.empty ++ ("spread " : Str) = "spread " := by rfl
    rw [this, len_app]
    have : ("spread " : Str).length = 7 := rfl
    omega
  · show (Str.empty ++ ("spread " : Str)).length ≤ 100000
    decide
  · have : Str.empty ++ ("spread " : Str) = "spread " := by rfl
    rw [this]
  · obtain ⟨vs, h1, v, r, h2, _, v2, r2, h3, _, h4⟩ := h
    exact ⟨vs, h1, by rw [h2, h3, h4]; show ws.length + 2 ≤ 100000; omega⟩
  · obtain ⟨vs, h1, v, r, h2, _, v2, r2, h3, _, h4⟩ := h
    rw [hys] at h1
    have ey : ys.length = 2 := by
      injection h1 with h1
      injection h1 with h1
      rw [h1, h2, h3, h4] <;> rfl
    refine b_subI 3 (by rfl) x_int fun H7 e7 => b_nil ⟨k - 1, by omega, k - 1, ws ++ ys, some vb, by omega, ?_, (Ex.mut (x5'.trans e6) r00).trans e7, e7 _ _ upd_same, by rw [List.length_append, ey]; omega, rfl⟩
    have : ((k - 1 : Nat) : Int) - 1 = (k : Int) - 1 - 1 := by omega
    rw [this] <;> rfl
end
end Ls
/-! LsN10 -/
set_option Elab.async false
set_option linter.all false
set_option maxRecDepth 100000
namespace Lx
open PySem PySem.Spec PyProof.Rows L2 Evl
/-! ### the module's dict NUMBERS -/
def textOf : Value → Str | .str x _ => x | _ => Str.empty
theorem pairs_lit {prog : Program} {w : World} : ∀ {l : List DictEntry}, PySem.W.KeysLit w.params l → Pairs (PySem.strKind prog w) l (l.map fun e => (textOf e.key, e.val))
  | [], _ => .nil
  | e :: l, ⟨⟨x, t, e1, _⟩, r⟩ => .cons (by
    show (PySem.strKind prog w).is (textOf e.key) e.key = true
    rw [e1]
    exact PySem.strKind_is prog w x t) rfl (pairs_lit r)
theorem call_len_kd {X : Cx} : CallR X (.builtin "len") (fun xs H Q => ∃ d es n, xs = [V.ref d] ∧ KDict X.K X.w d es n ∧ (es.toList.map fun e => textOf e.key).Nodup ∧ es.toList.length ≤ 100 ∧ Q (.int (es.toList.length : Int)) H) := by
  intro pins s σ H xs us Q I r h
  obtain ⟨d, es, n, rfl, D, nd, z, q⟩ := h
  obtain rfl := Vals.ref1 r
  have hl := I.kIn _ _ D.at_
  have dd : s.heap.DictOf (PySem.strKind X.prog X.w) d (es.toList.map fun e => (textOf e.key, e.val)) := by
    refine ⟨_, es, n, hl, ⟨rfl, rfl, rfl⟩, rfl, fun e he => ?_, pairs_lit D.lit, by rw [List.map_map]; exact nd⟩
    obtain ⟨x, t, e1, e2⟩ := D.lit.all e (Array.mem_toList_iff.mpr he)
    exact ⟨x, by rw [e1]; exact PySem.strKind_is X.prog X.w x t, e2⟩
  refine call_len_dict D.low dd (by rw [List.length_map]; omega) ?_
  rw [List.length_map]
  exact ⟨.int (es.toList.length : Int), H, (I.tok _), ⟨_, rfl⟩, q⟩
section
variable {X : Cx} {e i : Expr} {σ : L2.St} {H : Hp} {pos p1 : Pos} {d : Addr} {es : Array DictEntry} {n : Nat} {z : Str} {v : V}
theorem x_lenKd (hm : X.mg "len" = none) (ha : XE X e σ H (.ref d)) (D : KDict X.K X.w d es n) (nd : (es.toList.map fun e => textOf e.key).Nodup) (hz : es.toList.length ≤ 100) (hg : Gl X "len" := by rfl) (he : starEach [e] X.env = (false, eval e X.env) :: starEach [] X.env := by rfl) (hpl : (backTo pos (starEach [] X.env)).any (·.1) = false := by rfl) :
    XE X (.Call (.Name "len" p1) [e] [] pos) σ H (.int (es.toList.length : Int)) :=
  xe (pe_callB call_len_kd hg hm (by decide +kernel) (pa_cons peT pa_nil he) (by decide) (by decide) he hpl) fun H1 e1 Q q => ha H1 e1 _ fun H2 e2 => ⟨d, es, n, rfl, D, nd, hz, q H2 e2⟩
theorem x_kdct (ha : XE X e σ H (.ref d)) (hi : XE X i σ H (.str z)) (D : KDct X.K X.w d z v) (hs : PlainIx i := by intro _ _; rfl) : XE X (.Subscript e i pos) σ H v :=
  xe (pe_ix ix_kdict peT peT hs) (ev_op ha hi fun H1 e1 Q q => ⟨d, z, v, rfl, rfl, D, q H1 (Ex.refl H1)⟩)
end
end Lx
/-! LsV9 -/
set_option Elab.async false
set_option linter.all false
set_option maxRecDepth 100000
namespace Ls
open PySem PySem.Spec PyProof.Rows L2 Lx Ln
open Evl (Ex Ex.refl Ex.trans Ex.mut Ex.new Ev EvT EvL EvU EvA ex_l ex_t ex_rd sq_of st_of sz_of sz_lt fresh_back)
open Lsm (X5 O3 Y4 L10 Le Wr Lb Qn Cf)
/-! ### a way, whatever the watch: labels as those of a column's watch -/
inductive Wk where
  | k (W : Wd)
  | c (W : Wd) (x : Wx)
def Wk.W : Wk → Wd | .k W => W | .c W _ => W
def Wk.isCol : Wk → Bool | .k _ => false | .c _ _ => true
def Wk.f : Wk → Bool | .k _ => true | .c _ x => x.c.fall
def Wk.C (K : PySem.W.Frag) : Wk → Addr | .k _ => cK K | .c _ _ => cW K
def Wk.At (K : PySem.W.Frag) (H : Hp) (w : Addr) : Wk → Prop | .k W => WAt K (cK K) H w W | .c W x => CwAt K H w W x
/-- x, y can come to be marked -/
def Wk.mkX : Wk → Prop | .k W => Mkb W.B W.home | .c _ x => x.oc.isSome = true
def Wk.mkY : Wk → Prop | .k _ => False | .c W x => Mkb W.B x.c.goal
theorem Wk.At.mono {K : PySem.W.Frag} {H H' : Hp} {w : Addr} {wk : Wk} (h : wk.At K H w) (e : Ex H H') : wk.At K H' w := by
  cases wk with
  | k W => exact WAt.mono h e
  | c W x => exact CwAt.mono h e
theorem Wk.At.wa {K : PySem.W.Frag} {H : Hp} {w : Addr} {wk : Wk} (h : wk.At K H w) : WAt K (wk.C K) H w wk.W := by
  cases wk with
  | k W => exact h
  | c W x => exact CwAt.wa h
def Wok (wk : Wk) : Bool → Bool → L10 → List Lb → Prop
  | _, _, _, [] => True
  | xp, yp, l, .putX o :: r => (wk.isCol = true ∨ o = .no) ∧ Wok wk true yp l r
  | xp, yp, l, .putY :: r => wk.isCol = true ∧ Wok wk xp true l r
  | xp, yp, l, .putZ :: r => wk.isCol = true ∧ Wok wk xp yp l r
  | xp, yp, l, .turn _ :: r => wk.isCol = true ∧ Wok wk xp yp l r
  | xp, yp, l, .markY :: r => wk.isCol = true ∧ yp = true ∧ wk.mkY ∧ Wok wk xp yp l r
  | xp, yp, l, .markX :: r => xp = true ∧ wk.mkX ∧ Wok wk xp yp l r
  | xp, yp, l, .strikeX :: r => wk.isCol = true ∧ Wok wk xp yp l r
  | xp, yp, l, .look k :: r => (wk.isCol = true ∨ k = .x) ∧ ∃ l', l.add k = some l' ∧ Wok wk xp yp l' r
  | xp, yp, l, .do_ k :: r => (wk.isCol = true ∨ k = .x) ∧ ∃ l', l.rem k = some l' ∧ Wok wk xp yp l' r
  | xp, yp, l, .stop k :: r => (wk.isCol = true ∨ k = .x) ∧ ∃ l', l.rem k = some l' ∧ Wok wk xp yp l' r
theorem Mc.run_cons (M : Mc) {s t : M.St} {l : M.Lb} {ls : List M.Lb} (h : M.run s (l :: ls) = some t) : ∃ u r, M.out l s = some (u, r) ∧ M.run u ls = some t := by
  rw [Mc.run] at h
  split at h
  · cases h
  · rename_i u r e
    exact ⟨u, r, e, h⟩
theorem run_col {K : PySem.W.Frag} {W : Wd} {x : Wx} {n : Qn} {s t : Lsm.S} {lb : Lb} {path : List Lb} (h : (colM K W x n).run s (lb :: path) = some t) : ∃ u r, Lsm.out (cfg W x) lb s = some (u, r) ∧ (colM K W x n).run u path = some t := Mc.run_cons (colM K W x n) h
theorem did_keep (f : Bool) (k : Le) (t : Lsm.S) : (Lsm.did f k t).1.l = t.l ∧ ((Lsm.did f k t).1.x.isNew = false → t.x.isNew = false) ∧ ((Lsm.did f k t).1.y.isNew = false → t.y.isNew = false) := by
  obtain ⟨x, p, y, z, l⟩ := t
  unfold Lsm.did
  cases k <;> cases f <;> cases x <;> cases p <;> cases y <;> simp [X5.isNew, X5.isPlain, X5.here, O3.isNo, Y4.isNew, Y4.isPlain, Y4.isMarked]
/-- a way that the column's watch lets by -/
theorem wok_col {K : PySem.W.Frag} {W : Wd} {x : Wx} {n : Qn} (hm : W.mks x.c.goal = true → Mkb W.B x.c.goal) : ∀ {path : List Lb} {s t : Lsm.S} {xp yp : Bool}, (colM K W x n).run s path = some t → (s.x.isNew = false → xp = true) → (s.y.isNew = false → yp = true) → Wok (.c W x) xp yp s.l path
  | [], _, _, _, _, _, _, _ => trivial
  | lb :: path, s, t, xp, yp, h, hx, hy => by
    obtain ⟨u, r, ho, h⟩ := run_col h
    have ih : ∀ {xp yp : Bool}, (u.x.isNew = false → xp = true) → (u.y.isNew = false → yp = true) → Wok (.c W x) xp yp u.l path := wok_col hm h
    clear h
    cases lb with
      | putX o =>
        unfold Lsm.out at ho
        simp only at ho
        split at ho
        · injection ho with ho
          injection ho with ho
          subst ho
          exact ⟨.inl rfl, ih (fun _ => rfl) hy⟩
        · cases ho
      | putY =>
        unfold Lsm.out at ho
        simp only at ho
        split at ho
        · injection ho with ho
          injection ho with ho
          subst ho
          exact ⟨rfl, ih hx (fun _ => rfl)⟩
        · cases ho
      | putZ =>
        unfold Lsm.out at ho
        simp only at ho
        split at ho
        · injection ho with ho
          injection ho with ho
          subst ho
          exact ⟨rfl, ih hx hy⟩
        · cases ho
      | turn o =>
        unfold Lsm.out at ho
        simp only at ho
        split at ho
        · injection ho with ho
          injection ho with ho
          subst ho
          exact ⟨rfl, ih hx hy⟩
        · cases ho
      | markY =>
        unfold Lsm.out at ho
        simp only at ho
        split at ho
        · rename_i hc
          injection ho with ho
          injection ho with ho
          subst ho
          have hp : s.y.isPlain = true := by cases z : s.y.isPlain <;> rw [z] at hc <;> first | rfl | cases hc
          have hn : s.y.isNew = false := by cases z : s.y <;> rw [z] at hp <;> first | rfl | cases hp
          have hk : W.mks x.c.goal = true := by
            rw [hp, Bool.true_and] at hc
            unfold Lsm.mayMark at hc
            have : (cfg W x).mkL = true := by cases z : (cfg W x).mkL <;> rw [z] at hc <;> first | rfl | cases hc
            exact this
          exact ⟨rfl, hy hn, hm hk, ih hx (fun _ => hy hn)⟩
        · cases ho
      | strikeX =>
        unfold Lsm.out at ho
        simp only at ho
        split at ho
        · rename_i hc
          injection ho with ho
          injection ho with ho
          subst ho
          have hn : s.x.isNew = false := by
            cases z : s.x <;> rw [z] at hc <;> first | rfl | (simp [X5.isPlain, X5.isMarked] at hc)
          exact ⟨rfl, ih (fun _ => hx hn) hy⟩
        · cases ho
      | markX =>
        unfold Lsm.out at ho
        simp only at ho
        split at ho
        · rename_i hc
          injection ho with ho
          injection ho with ho
          subst ho
          simp only [Bool.and_eq_true] at hc
          have hn : s.x.isNew = false := by
            cases z : s.x <;> rw [z] at hc <;> first | rfl | (exact absurd hc.1.1 (by decide))
          exact ⟨hx hn, hc.1.2, ih (fun _ => hx hn) hy⟩
        · cases ho
      | look k =>
        unfold Lsm.out at ho
        simp only at ho
        cases hk : Lsm.more (cfg W x) s.l k with
        | none => rw [hk] at ho; cases ho
        | some l2 =>
          rw [hk] at ho
          simp only at ho
          split at ho
          · injection ho with ho
            injection ho with ho
            subst ho
            refine ⟨.inl rfl, l2, ?_, ih hx hy⟩
            unfold Lsm.more at hk
            split at hk
            · cases hk
            · exact hk
          · cases ho
      | do_ k =>
        unfold Lsm.out at ho
        simp only at ho
        cases hk : s.l.rem k with
        | none => rw [hk] at ho; cases ho
        | some l2 =>
          rw [hk] at ho
          simp only at ho
          refine ⟨.inl rfl, l2, hk, ?_⟩
          have hd := did_keep (cfg W x).fall k { s with l := l2 }
          split at ho
          · injection ho with ho
            injection ho with ho
            subst ho
            exact ih hx hy
          · injection ho with ho
            have e : u = (Lsm.did (cfg W x).fall k { s with l := l2 }).1 := by rw [ho]
            subst e
            have z := ih (fun h => hx (hd.2.1 h)) (fun h => hy (hd.2.2 h))
            rw [hd.1] at z
            exact z
      | stop k =>
        unfold Lsm.out at ho
        simp only at ho
        cases hk : s.l.rem k with
        | none => rw [hk] at ho; cases ho
        | some l2 =>
          rw [hk] at ho
          simp only at ho
          injection ho with ho
          injection ho with ho
          subst ho
          exact ⟨.inl rfl, l2, hk, ih hx hy⟩
def toLb : LbK → Lb | .put => .putX .no | .mark => .markX | .look => .look .x | .do_ => .do_ .x | .stop => .stop .x
theorem LkR.lb {lb : LbK} {N : Nat} {v : V} {H : Hp} (h : LkR lb N v H) : LbR true (toLb lb) N v H := by
  cases lb <;> exact h
theorem l3_add {l l' : L3} (h : l.add = some l') : l.l.add .x = some l'.l := by
  cases l <;> cases h <;> rfl
theorem run_kind {K : PySem.W.Frag} {W : Wd} {s t : KS} {lb : LbK} {path : List LbK} (h : (kindM K W).run s (lb :: path) = some t) : ∃ u r, outK (cfK W) lb s = some (u, r) ∧ (kindM K W).run u path = some t := Mc.run_cons (kindM K W) h
theorem wok_kind {K : PySem.W.Frag} {W : Wd} (hm : W.mks W.home = true → Mkb W.B W.home) : ∀ {path : List LbK} {s t : KS} {xp yp : Bool}, (kindM K W).run s path = some t → (s.y.isNew = false → xp = true) → Wok (.k W) xp yp s.l.l (path.map toLb)
  | [], _, _, _, _, _, _ => trivial
  | lb :: path, s, t, xp, yp, h, hx => by
    obtain ⟨u, r, ho, h⟩ := run_kind h
    have ih : ∀ {xp yp : Bool}, (u.y.isNew = false → xp = true) → Wok (.k W) xp yp u.l.l (path.map toLb) := wok_kind hm h
    clear h
    rw [List.map_cons]
    cases lb with
    | put =>
      unfold outK at ho
      simp only at ho
      split at ho
      · injection ho with ho
        injection ho with ho
        subst ho
        exact ⟨.inr rfl, ih fun _ => rfl⟩
      · cases ho
    | mark =>
      unfold outK at ho
      simp only at ho
      split at ho
      · rename_i hc
        injection ho with ho
        injection ho with ho
        subst ho
        simp only [Bool.and_eq_true] at hc
        have hn : s.y.isNew = false := by
          cases z : s.y <;> rw [z] at hc <;> first | rfl | (exact absurd hc.1 (by decide))
        exact ⟨hx hn, hm hc.2.1, ih fun _ => hx hn⟩
      · cases ho
    | look =>
      unfold outK at ho
      simp only at ho
      split at ho
      · cases ho
      · rename_i hmk
        cases hk : (if !s.l.isE && (cfK W).lone then none else s.l.add) with
        | none => rw [hk] at ho; cases ho
        | some l2 =>
          rw [hk] at ho
          injection ho with ho
          injection ho with ho
          subst ho
          refine ⟨.inr rfl, l2.l, l3_add ?_, ih hx⟩
          split at hk
          · cases hk
          · exact hk
    | do_ =>
      unfold outK at ho
      simp only at ho
      cases hk : s.l.rem with
      | none => rw [hk] at ho; cases ho
      | some l2 =>
        rw [hk] at ho
        simp only at ho
        refine ⟨.inr rfl, l2.l, by rw [rem3, hk] <;> rfl, ?_⟩
        split at ho
        · rename_i hc
          injection ho with ho
          injection ho with ho
          subst ho
          have hn : s.y.isNew = false := by
            cases z : s.y <;> rw [z] at hc <;> first | rfl | (simp [Y4.isPlain, Y4.isMarked] at hc)
          exact ih fun _ => hx hn
        · injection ho with ho
          injection ho with ho
          subst ho
          exact ih hx
    | stop =>
      unfold outK at ho
      simp only at ho
      cases hk : s.l.rem with
      | none => rw [hk] at ho; cases ho
      | some l2 =>
        rw [hk] at ho
        injection ho with ho
        injection ho with ho
        subst ho
        exact ⟨.inr rfl, l2.l, by rw [rem3, hk] <;> rfl, ih hx⟩
end Ls
/-! LsV10 -/
set_option Elab.async false
set_option linter.all false
set_option maxRecDepth 100000
namespace Ls
open PySem PySem.Spec PyProof.Rows L2 Lx Ln
open Evl (Ex Ex.refl Ex.trans Ex.mut Ex.new Ev EvT EvL EvU EvA ex_l ex_t ex_rd sq_of st_of sz_of sz_lt fresh_back)
open Lsm (X5 O3 Y4 L10 Le Wr Lb Qn Cf)
/-! ### the weaver -/
structure WvA where
  v : Addr
  dx : Addr
  m : Addr
  h : Addr
  ch : Addr
  w : Addr
  pw : Addr
def wvF (a : WvA) (u : Int) : List (Str × V) := [("watch", .ref a.w), ("way", .ref a.pw), ("made", .ref a.m), ("held", .ref a.h), ("chains", .ref a.ch), ("unused", .int u)]
def heldD (f : Bool) (hs : List (Int × Le)) : List (Key × V) := hs.map fun q => (Sum.inl q.1, V.str (kS f q.2))
def chD (cr : List (R3 × Addr)) : List (Key × V) := cr.map fun q => (Sum.inr (rS q.1), V.ref q.2)
structure Wv (K : PySem.W.Frag) (a : WvA) (H0 : Hp) (f : Bool) (mv : List V) (hs : List (Int × Le)) (cr : List (R3 × Addr)) (u : Int) (H : Hp) : Prop where
  ex : Ex H0 H
  v0 : H0 a.v = none
  m0 : H0 a.m = none
  h0 : H0 a.h = none
  c0 : H0 a.ch = none
  hv : H a.v = some (.ins (cV K) a.dx (wvF a u))
  hm : H a.m = some (.lst mv)
  hh : H a.h = some (.dK (heldD f hs))
  hc : H a.ch = some (.dK (chD cr))
  ne : a.h ≠ a.ch
  ca : ∀ q ∈ cr, ∃ pl i, H q.2 = some (.tup [.ref pl, .int i]) ∧ pl ≠ a.m ∧ ColsL K 20 pl H
def kindR (wk : Wk) : R3 → Str | .x => wk.W.home | _ => match wk with | .k W => W.home | .c _ x => x.c.goal
section
variable {P : Program} {wd : World} {K : PySem.W.Frag} {mg : Str → Option Value} {base : Heap}
theorem Wv.mono {a : WvA} {H0 H H' : Hp} {f : Bool} {mv : List V} {hs : List (Int × Le)} {cr : List (R3 × Addr)} {u : Int} (w : Wv K a H0 f mv hs cr u H) (e : Ex H H') : Wv K a H0 f mv hs cr u H' :=
  ⟨w.ex.trans e, w.v0, w.m0, w.h0, w.c0, e _ _ w.hv, e _ _ w.hm, e _ _ w.hh, e _ _ w.hc, w.ne, fun q hq => let ⟨pl, i, h1, h2, h3⟩ := w.ca q hq; ⟨pl, i, e _ _ h1, h2, h3.keep (Nat.le_refl _) (fun o h => e _ _ h) fun a C dx fs h => e _ _ h⟩⟩
theorem r_x (r : R3) : decide (rS r = "x") = (match r with | .x => true | _ => false) := by cases r <;> decide
/-- kind_at: only the weaver and its watch are read -/
def spKA (K : PySem.W.Frag) : Sp := fun vs H Q _ => ∃ a u wk r, vs = [.ref a.v, .str (rS r)] ∧ H a.v = some (.ins (cV K) a.dx (wvF a u)) ∧ wk.At K H a.w ∧ (wk.isCol = true ∨ r = .x) ∧ ∀ H', Ex H H' → Q (.str (kindR wk r)) H'
theorem ok_kind_at (T : Tf K mg) : C8.Met P wd K mg base 1 (cV K) "kind_at" (spKA K) [] := by
  refine met_of (N := ["self", "row"]) T.m_V_kind_at (by decide +kernel) (fun vs H Q E ⟨a, u, wk, r, e, _⟩ => by rw [e]; rfl) fun f cdv A outer s H vs Q E hr nd h => ?_
  obtain ⟨a, u, wk, r, rfl, hv, hw, hc, q⟩ := h
  refine XS.run (s_ret (x_ifE (t_is (t_eqS (x_var 1) x_str) (r_x r)) (fun hb => ?_) fun hb => ?_) q)
  · have er : r = .x := by cases r <;> first | rfl | cases hb
    subst er
    have wa := hw.wa
    cases wk with
    | k W => exact x_fld (x_fld (x_var 0) hv T.cl_V T.nV_watch rfl) wa.hw T.cl_K T.nK_home wa.f2
    | c W x => exact x_fld (x_fld (x_var 0) hv T.cl_V T.nV_watch rfl) wa.hw T.cl_W T.nW_home wa.f2
  · cases wk with
    | k W =>
      have er : r = .x := by rcases hc with h | h <;> first | exact h | cases h
      subst er
      cases hb
    | c W x =>
      have hw : CwAt K H a.w W x := hw
      refine x_is (x_fld (x_fld (x_var 0) hv T.cl_V T.nV_watch rfl) hw.wa.hw T.cl_W T.nW_goal hw.g2) ?_
      cases r <;> first | rfl | cases hb
end
end Ls
/-! LsN11 -/
set_option Elab.async false
set_option linter.all false
set_option maxRecDepth 100000
namespace Lx
open PySem PySem.Spec PyProof.Rows L2 Evl
/-! ### tuples of texts: == -/
theorem dp_strs {K : PySem.W.Frag} {H : Hp} : ∀ us : List Str, DpAll K H (us.map V.str) (us.map PyData.str)
  | [] => .nil
  | u :: us => .cons (.str u) (dp_strs us)
theorem eqv_strs : ∀ us ws : List Str, PyData.eqvAll (us.map PyData.str) (ws.map PyData.str) = decide (us = ws)
  | [], [] => rfl
  | [], _ :: _ => rfl
  | _ :: _, [] => rfl
  | u :: us, w :: ws => by
    have ih := eqv_strs us ws
    show (u == w && PyData.eqvAll (us.map PyData.str) (ws.map PyData.str)) = _
    rw [ih]
    by_cases h1 : u = w
    · by_cases h2 : us = ws <;> simp [h1, h2]
    · simp [h1]
section
variable {X : Cx} {a c : Expr} {pos p1 p2 : Pos} {σ : L2.St} {H : Hp} {us ws : List Str}
theorem t_eqTS {j : Nat} (hr : Room j X.A) (ha : XP X a σ H fun v H2 => ∃ p, v = .ref p ∧ SqT X.K H2 p (us.map V.str)) (hb : XU X c σ H (ws.map V.str)) (h1 : SeqAt.shaped (.tuple (us.map PyData.str)) = true := by first | rfl | decide | (simp [SeqAt.shaped]; done)) (h2 : SeqAt.shaped (.tuple (ws.map PyData.str)) = true := by first | rfl | decide) (hm : behindInMarks .Eq c = false := by exact nomark _) :
    XT X (.Compare a [.Eq] [c] pos) σ H (decide (us = ws)) :=
  xt (pt_cmpR (op_eqD (by have := hr.un; omega)) peT peT hm) fun H1 e1 Q q => ha H1 e1 _ fun v H2 e2 ⟨p, ev, hp⟩ => hb H2 (e1.trans e2) _ fun p2 H3 _ e3 h3 =>
    ⟨.tuple (us.map PyData.str), .tuple (ws.map PyData.str), by rw [ev]; exact .tup (ex_t e3 hp) (dp_strs us), .tup (st_of h3) (dp_strs ws), h1, h2, by
      refine ⟨decide (us = ws), ?_, q H3 (e2.trans e3)⟩
      show V.bl (PyData.eqvAll (us.map PyData.str) (ws.map PyData.str)) = _
      rw [eqv_strs]⟩
/-- t[:k], the whole or a part -/
theorem xp_slA {e : Expr} {ad : Addr} {xs : List V} {i : Int} {k kk : Nat} (ha : XE X e σ H (.ref ad)) (h : SqT X.K H ad xs) (hi : i = (k : Int)) : XP X (.Subscript e (.Slice none (some (.Constant (.int i) kk p1)) none p2) pos) σ H (fun v H2 => ∃ p, v = .ref p ∧ SqT X.K H2 p (xs.take k)) := by
  subst hi
  refine xp (pe_slice sl_tupA peT po_none (po_some pe_int)) fun H1 e1 Q q => ha H1 e1 _ fun H2 e2 => ?_
  have e0 : HT.sIx xs.length 0 none = 0 := rfl
  have e1' : HT.sIx xs.length xs.length (some (k : Int)) = min k xs.length := by
    unfold HT.sIx
    simp only
    have h0 : ¬ ((k : Int) < 0) := by omega
    rw [if_neg h0]
    omega
  have h2 := ex_t (e1.trans e2) h
  refine ⟨(k : Int), rfl, ad, xs, rfl, h2, fun z => q _ H2 e2 ⟨ad, rfl, ?_⟩, fun z p hp => q _ _ (e2.trans (Ex.new hp)) ⟨p, rfl, st_of ?_⟩⟩
  · rw [e1'] at z
    rw [List.take_of_length_le (by omega)]
    exact h2
  · rw [upd_same]
    unfold cutV
    rw [e0, e1', List.drop_zero, Nat.sub_zero, ← List.take_eq_take_min]
/-- l[i:] of a list -/
theorem xl_slFrom {e i : Expr} {ad : Addr} {xs : List V} {k : Nat} (ha : XE X e σ H (.ref ad)) (h : SqL X.K H ad xs) (hi : XE X i σ H (.int (k : Int))) : XL X (.Subscript e (.Slice (some i) none none p2) pos) σ H (xs.drop k) := by
  refine xl (pe_slice sl_list peT (po_some peT) po_none) fun H1 e1 Q q => ha H1 e1 _ fun H2 e2 => hi H2 (e1.trans e2) _ fun H3 e3 => ?_
  have e0 : HT.sIx xs.length xs.length none = xs.length := rfl
  have e1' : HT.sIx xs.length 0 (some (k : Int)) = min k xs.length := by
    unfold HT.sIx
    simp only
    have h0 : ¬ ((k : Int) < 0) := by omega
    rw [if_neg h0]
    omega
  refine ⟨(k : Int), rfl, ad, xs, rfl, ex_l ((e1.trans e2).trans e3) h, fun p hp => q p _ (fresh_back (e2.trans e3) hp) ((e2.trans e3).trans (Ex.new hp)) ?_⟩
  rw [upd_same]
  unfold cutV
  rw [e0, e1']
  congr 2
  rw [List.take_of_length_le (by rw [List.length_drop]; exact Nat.le_refl _)]
  by_cases hk : k ≤ xs.length
  · rw [Nat.min_eq_left hk]
  · rw [Nat.min_eq_right (by omega), List.drop_of_length_le (Nat.le_refl _), List.drop_of_length_le (by omega)]
end
end Lx
/-! LsV11 -/
set_option Elab.async false
set_option linter.all false
set_option maxRecDepth 100000
namespace Ls
open PySem PySem.Spec PyProof.Rows L2 Lx Ln
open Evl (Ex Ex.refl Ex.trans Ex.mut Ex.new Ev EvT EvL EvU EvA ex_l ex_t ex_rd sq_of st_of sz_of sz_lt fresh_back)
open Lsm (X5 O3 Y4 L10 Le Wr Lb Qn Cf)
section
variable {P : Program} {wd : World} {K : PySem.W.Frag} {mg : Str → Option Value} {base : Heap}
/-- the way as the weaver reads it -/
def WayL (K : PySem.W.Frag) (f : Bool) (H : Hp) (pw : Addr) (path : List Lb) : Prop := ∃ pvs, SqL K H pw pvs ∧ Paired (fun v lb => ∃ p, v = V.ref p ∧ SqT K H p ((lbT f lb).map V.str)) pvs path
theorem WayL.mono {f : Bool} {H H' : Hp} {pw : Addr} {path : List Lb} (h : WayL K f H pw path) (e : Ex H H') : WayL K f H' pw path := let ⟨pvs, h1, h2⟩ := h; ⟨pvs, ex_l e h1, Paired.mapP h2 fun v lb ⟨p, h3, h4⟩ => ⟨p, h3, ex_t e h4⟩⟩
def isPut (f : Bool) (r : R3) (lb : Lb) : Bool := decide ((lbT f lb).take 2 = [("put" : Str), rS r])
def isMark (f : Bool) (r : R3) (lb : Lb) : Bool := decide (lbT f lb = [("mark" : Str), rS r])
def behind (f : Bool) (r : R3) : List Lb → Bool
  | [] => false
  | lb :: rest => if isPut f r lb then false else if isMark f r lb then true else behind f r rest
theorem paired_drop {α β : Type} {F : α → β → Prop} : ∀ (n : Nat) {xs : List α} {ys : List β}, Paired F xs ys → Paired F (xs.drop n) (ys.drop n)
  | 0, _, _, h => h
  | n + 1, _, _, .nil => .nil
  | n + 1, _, _, .cons _ t => paired_drop n t
def spMB (K : PySem.W.Frag) : Sp := fun vs H Q _ => ∃ a u f path i r, vs = [.ref a.v, .int ((i : Nat) : Int), .str (rS r)] ∧ H a.v = some (.ins (cV K) a.dx (wvF a u)) ∧ WayL K f H a.pw path ∧ ∀ H', Ex H H' → Q (.bl (behind f r (path.drop (i + 1)))) H'
theorem sh_lab (f : Bool) (lb : Lb) : SeqAt.shaped (.tuple ((lbT f lb).map PyData.str)) = true := by
  cases lb with
  | putX o => cases o <;> cases f <;> decide +kernel
  | turn o => cases o <;> cases f <;> decide +kernel
  | look k => cases k <;> cases f <;> decide +kernel
  | do_ k => cases k <;> cases f <;> decide +kernel
  | stop k => cases k <;> cases f <;> decide +kernel
  | _ => cases f <;> decide +kernel
theorem sh_lab2 (f : Bool) (lb : Lb) : SeqAt.shaped (.tuple (((lbT f lb).take 2).map PyData.str)) = true := by
  cases lb with
  | putX o => cases o <;> cases f <;> decide +kernel
  | turn o => cases o <;> cases f <;> decide +kernel
  | look k => cases k <;> cases f <;> decide +kernel
  | do_ k => cases k <;> cases f <;> decide +kernel
  | stop k => cases k <;> cases f <;> decide +kernel
  | _ => cases f <;> decide +kernel
theorem ok_behind_mark (T : Tf K mg) : C8.Met P wd K mg base 1 (cV K) "is_marked_behind" (spMB K) [] := by
  refine met_of (N := ["self", "at", "row", "label"]) T.m_V_is_marked_behind (by decide +kernel) (fun vs H Q E ⟨a, u, f, path, i, r, e, _⟩ => by rw [e]; rfl) fun f0 cdv A outer s H vs Q E hr nd h => ?_
  obtain ⟨a, u, f, path, i, r, rfl, hv, ⟨pvs, hw, hp⟩, q⟩ := h
  have hpd := paired_drop (i + 1) hp
  refine b_forL (S := fun v H2 => ∃ p, v = .ref p ∧ H2 p = some (.lst (pvs.drop (i + 1)))) (xp_n (xn_l (xl_slFrom (k := i + 1) (x_fld (x_var 0) hv T.cl_V T.nV_way rfl) hw (x_is (x_add (x_var 1) x_int) (by rw [Int.natCast_add] <;> rfl))))) (pg_name (i := 3) nd rfl (.inl rfl)) fun v H1 e1 ⟨p, ev, hl⟩ => ⟨p, pvs.drop (i + 1), fun j σ' H' => ∃ x3, σ' = [some (.ref a.v), some (.int ((i : Nat) : Int)), some (.str (rS r)), x3] ∧ Ex H1 H' ∧ behind f r (path.drop (i + 1)) = behind f r ((path.drop (i + 1)).drop j), ev, ⟨none, rfl, Ex.refl _, rfl⟩, fun j σ' H' ⟨x3, _, e2, _⟩ => sq_of (e2 _ _ hl), ?_, ?_⟩
  · rintro j x σ' H2 hx ⟨x3, rfl, e2, eb⟩
    obtain ⟨lb, hlb, pl, rfl, hsq⟩ := prd_at hpd hx
    have hsq2 := ex_t (e1.trans e2) hsq
    have dr : (path.drop (i + 1)).drop j = lb :: (path.drop (i + 1)).drop (j + 1) := by
      obtain ⟨hj, e⟩ := List.getElem?_eq_some_iff.mp hlb
      rw [List.drop_eq_getElem_cons hj, e]
    rw [dr] at eb
    have st : ∀ us : List Str, us.length ≤ 5 → True := fun _ _ => trivial
    refine b_if (b := isPut f r lb) (t_eqTS hr (xp_imp (xp_slA (k := 2) (x_var 3) hsq2 rfl) fun v H3 _ h => by
      obtain ⟨p, h1, h2⟩ := h
      exact ⟨p, h1, by rw [List.map_take]; exact h2⟩) (x_tup (x_acons x_str (x_acons (x_var 2) x_anil))) (sh_lab2 f lb) (by cases r <;> decide +kernel)) (fun hb H3 e3 => b_ret x_bl fun H4 e4 => ?_) fun hb H3 e3 => b_nil ?_
    · have := q H4 (((e1.trans e2).trans e3).trans e4)
      rw [eb] at this
      unfold behind at this
      rw [if_pos hb] at this
      exact this
    refine b_if (b := isMark f r lb) (t_eqTS hr (xp_imp (xp_e (x_var 3)) fun v H4 e4 ev => ⟨pl, ev, ex_t (e3.trans e4) hsq2⟩) (x_tup (x_acons x_str (x_acons (x_var 2) x_anil))) (sh_lab f lb) (by cases r <;> decide +kernel)) (fun hb2 H4 e4 => b_ret x_bl fun H5 e5 => ?_) fun hb2 H4 e4 => b_nil (b_nil ⟨_, rfl, (e2.trans e3).trans e4, ?_⟩)
    · have := q H5 ((((e1.trans e2).trans e3).trans e4).trans e5)
      rw [eb] at this
      unfold behind at this
      rw [hb, if_neg Bool.false_ne_true, if_pos hb2] at this
      exact this
    · rw [eb]
      conv => lhs; unfold behind
      rw [hb, if_neg Bool.false_ne_true, hb2, if_neg Bool.false_ne_true]
  · rintro σ' H2 ⟨x3, rfl, e2, eb⟩
    have le := paired_len hpd
    have z : (path.drop (i + 1)).drop (pvs.drop (i + 1)).length = [] := List.drop_eq_nil_of_le (Nat.le_of_eq le.symm)
    rw [z] at eb
    refine b_ret x_bl fun H3 e3 => ?_
    have := q H3 ((e1.trans e2).trans e3)
    rw [eb] at this
    exact this
end
end Ls
/-! LsV12 -/
set_option Elab.async false
set_option linter.all false
set_option maxRecDepth 100000
namespace Lx
open PySem PySem.Spec PyProof.Rows L2 Evl
theorem xap_imp {X : Cx} {es : List Expr} {σ : L2.St} {H : Hp} {R R' : List V → Hp → Prop} (h : XAP X es σ H R) (i : ∀ vs H2, Ex H H2 → R vs H2 → R' vs H2) : XAP X es σ H R' := fun H1 e Q q => h H1 e Q fun vs H2 e2 r => q vs H2 e2 (i vs H2 (e.trans e2) r)
theorem xap_starL {X : Cx} {e : Expr} {es : List Expr} {σ : L2.St} {H : Hp} {p : Pos} {R : List V → Hp → Prop} {T : List V → Hp → Prop} {S : Addr → Hp → Prop} (h : XN X e σ H S) (hS : ∀ a H1, S a H1 → ∃ xs, H1 a = some (.lst xs) ∧ T xs H1) (h2 : XAP X es σ H R) (st : ∀ xs H1 H2, Ex H1 H2 → T xs H1 → T xs H2) (hs : starEach (.Starred e p :: es) X.env = (true, eval e X.env) :: starEach es X.env := by rfl) :
    XAP X (.Starred e p :: es) σ H (fun vs H2 => ∃ xs ys, vs = xs ++ ys ∧ T xs H2 ∧ R ys H2) := fun H1 e1 Q q => wa (StX.pa_star peT paT hs) (h H1 e1 _ fun a H2 _ e2 s2 => by
    obtain ⟨xs, hx, t⟩ := hS a H2 s2
    exact ⟨a, xs, rfl, .inr (sq_of hx), h2 H2 (e1.trans e2) _ fun ys H3 e3 r => q _ H3 (e2.trans e3) ⟨xs, ys, rfl, st _ _ _ e3 t, r⟩⟩)
end Lx
namespace Ls
open PySem PySem.Spec PyProof.Rows L2 Lx Ln
open Evl (Ex Ex.refl Ex.trans Ex.mut Ex.new Ev EvT EvL EvU EvA ex_l ex_t ex_rd sq_of st_of sz_of sz_lt fresh_back)
open Lsm (X5 O3 Y4 L10 Le Wr Lb Qn Cf)
/-- what isinstance(watch, ColumnWatch) asks of the classes -/
structure TfI (K : PySem.W.Frag) : Prop where
  ty : ∀ C, C = cK K ∨ C = cW K → PySem.W.findIn K (.ref C) "__class__" = some (some (.builtin "object.__class__")) ∧ PySem.W.specialIn K (.builtin "object.__class__") "__get__" = some (some (.builtin "getset_descriptor.__get__")) ∧ PySem.W.takesIn K (.builtin "object.__class__") = some true ∧ PySem.W.mroIn K C (.type "object") = some true
  no : PySem.W.kitOne K (.ref (cK K)) (.ref (cW K)) = some false
section
variable {P : Program} {wd : World} {K : PySem.W.Frag} {mg : Str → Option Value} {base : Heap}
theorem kit_w {K : PySem.W.Frag} : PySem.W.kitOne K (.ref (cW K)) (.ref (cW K)) = some true := by
  unfold PySem.W.kitOne
  exact if_pos (by simp)
theorem x_isW {X : Cx} {e c : Expr} {σ : L2.St} {H : Hp} {p1 pos : Pos} {w : Addr} {wk : Wk} (T : Tf X.K X.mg) (I : TfI X.K) (ha : XE X e σ H (.ref w)) (hc : XE X c σ H (.ref (cW X.K))) (hw : wk.At X.K H w) (hg : Gl X "isinstance" := by rfl)
    (hs : starEach [e, c] X.env = (false, eval e X.env) :: starEach [c] X.env := by rfl) (hs2 : starEach [c] X.env = (false, eval c X.env) :: starEach [] X.env := by rfl) (hpl : (backTo pos (starEach [c] X.env)).any (·.1) = false := by rfl) :
    XE X (.Call (.Name "isinstance" p1) [e, c] [] pos) σ H (.bl wk.isCol) :=
  xe (pe_callB call_isi hg T.b_isinstance (by decide +kernel) (pa_cons peT (pa_cons peT pa_nil hs2) hs) (by decide) (by decide) hs hpl) fun H1 e1 Q q => ha H1 e1 _ fun H2 e2 => hc H2 (e1.trans e2) _ fun H3 e3 => by
    have hw3 := hw.mono ((e1.trans e2).trans e3)
    cases wk with
    | k W =>
      obtain ⟨f1, f2, f3, f4⟩ := I.ty (cK X.K) (.inl rfl)
      have hw3 : WAt X.K (cK X.K) H3 w W := hw3
      exact ⟨.ref w, .ref (cW X.K), .ref (cK X.K), .ref (cW X.K), false, rfl, .own _, .base (.ins hw3.hw T.cl_K f1 f2 f3 f4), I.no, q H3 (e2.trans e3)⟩
    | c W x =>
      obtain ⟨f1, f2, f3, f4⟩ := I.ty (cW X.K) (.inr rfl)
      have hw3 : CwAt X.K H3 w W x := hw3
      exact ⟨.ref w, .ref (cW X.K), .ref (cW X.K), .ref (cW X.K), true, rfl, .own _, .base (.ins hw3.wa.hw T.cl_W f1 f2 f3 f4), kit_w, q H3 (e2.trans e3)⟩
/-- columns as values -/
def ColsV (K : PySem.W.Frag) (n : Nat) (cvs : List V) (H : Hp) : Prop := ∃ cs, PairsR (ColR K) cvs cs H ∧ cs.length ≤ n ∧ ∀ c ∈ cs, c.word.length ≤ 100
theorem ColsV.mono {n : Nat} {cvs : List V} {H H' : Hp} (h : ColsV K n cvs H) (e : Ex H H') : ColsV K n cvs H' := let ⟨cs, h1, h2, h3⟩ := h; ⟨cs, h1.ex (stb_col K) e, h2, h3⟩
def spCO (K : PySem.W.Frag) : Sp := fun vs H Q _ => ∃ (a : WvA) (u : Int) (wk : Wk) (r : R3), vs = [.ref a.v, .str (rS r)] ∧ H a.v = some (.ins (cV K) a.dx (wvF a u)) ∧ wk.At K H a.w ∧ (r = .x ∧ wk.mkX ∨ r = .y ∧ wk.mkY) ∧ ∀ p H', H p = none → Ex H H' → ColsL K 20 p H' → Q (.ref p) H'
theorem ok_chain_of (T : Tf K mg) (I : TfI K) : C8.Met P wd K mg base 3 (cV K) "chain_of" (spCO K) [] := by
  refine met_of (N := ["self", "row", "column"]) T.m_V_chain_of (by decide +kernel) (fun vs H Q E ⟨a, u, wk, r, e, _⟩ => by rw [e]; rfl) fun f cdv A outer s H vs Q E hr nd h => ?_
  obtain ⟨a, u, wk, r, rfl, hv, hw, hc, q⟩ := h
  have up : ∀ {b : Addr} {A : BkA} {B : Bk} {k : Str} {H1 : Hp}, BkAt K H1 b A B → BkOk B → Mkb B k → PN (spUp K) [.ref b, .str k] H1 (ColsL K 10) := fun {b A B k H1} h1 h2 h3 H2 e2 Q q => ⟨b, k, A, B, rfl, h1.mono e2, h2, h3, q⟩
  refine b_if (b := decide (rS r = "x") && wk.isCol) (t_w (w_and (t_eqS (x_var 1) x_str) fun _ => w_and1 (t_val (x_isW T I (x_fld (x_var 0) hv T.cl_V T.nV_watch rfl) (x_glob (v := .ref (cW K)) T.g_W rfl) hw)))) (fun hb H1 e1 => ?_) fun hb H1 e1 => b_nil ?_
  · simp only [Bool.and_eq_true, decide_eq_true_eq] at hb
    obtain ⟨hx, hcol⟩ := hb
    have er : r = .x := by cases r <;> first | rfl | exact absurd hx (by decide)
    subst er
    cases wk with
    | k W => cases hcol
    | c W x =>
      have hw : CwAt K H a.w W x := hw
      have hw1 := hw.mono e1
      have hs : x.oc.isSome = true := by
        rcases hc with ⟨_, h⟩ | ⟨h, _⟩
        · exact h
        · cases h
      obtain ⟨c, hoc⟩ := Option.isSome_iff_exists.mp hs
      have ho := hw1.ho
      rw [hoc] at ho
      obtain ⟨⟨pc, dx, eo, hpc⟩, hcm, _, _, _, hmk⟩ := ho
      refine b_set 2 (x_is (x_fld (x_fld (x_var 0) (e1 _ _ hv) T.cl_V T.nV_watch rfl) hw1.wa.hw T.cl_W T.nW_other_column hw1.g3) eo) fun H2 e2 => ?_
      have hw2 := hw1.mono e2
      refine b_retN' (xn_lstP (R := fun vs H2 => ColsV K 11 vs H2) (xap_imp (xap_x (x_var 2) (xap_starL (T := fun xs H => ColsV K 10 xs H) (xn_call (ok_up T) hr (x_acons (x_fld (x_fld (x_var 0) (e2 _ _ (e1 _ _ hv)) T.cl_V T.nV_watch rfl) hw2.wa.hw T.cl_W T.nW_law_book hw2.wa.f1) (x_acons (x_fld (x_var 2) (e2 _ _ hpc) T.cl_C T.nC_goal (colF_goal c)) x_anil)) (up hw2.wa.hB hw2.wa.O hmk)) (fun p H3 ⟨cvs, cs, h1, h2, h3, h4⟩ => ⟨cvs, h1, cs, h2, h3, h4⟩) (xap_e x_anil) fun xs H1 H2 e h => h.mono e)) fun vs H3 e3 h => ?_) (fun vs H3 ⟨cs, h1, h2, h3⟩ => by rw [paired_len h1]; omega) fun vs H1 H2 e h => h.mono e) fun p H3 p0 e3 ⟨vs, h1, cs, h2, h3, h4⟩ => q p H3 (fresh_back (e1.trans e2) p0) ((e1.trans e2).trans e3) ⟨vs, cs, h1, h2, by omega, h4⟩
      obtain ⟨r, er, xs, ys, ex, ⟨cs, h1, h2, h3⟩, ey⟩ := h
      rw [er, ex, ey, List.append_nil]
      exact ⟨c :: cs, .cons ⟨pc, dx, rfl, (e2.trans e3) _ _ hpc⟩ h1, by rw [List.length_cons]; omega, fun d hd => by
        rcases List.mem_cons.mp hd with z | z
        · rw [z]; exact Nat.le_trans (hw.wa.O.cs c hcm).1.hi (by decide)
        · exact h3 d z⟩
  · have hv1 := e1 _ _ hv
    have hw1 := hw.mono e1
    have cond : wk.isCol = true ∨ r = .x := by
      rcases hc with ⟨h, _⟩ | ⟨_, h⟩
      · exact .inr h
      · cases wk with
        | k W => exact h.elim
        | c W x => exact .inl rfl
    have mk : Mkb wk.W.B (kindR wk r) := by
      rcases hc with ⟨rfl, h⟩ | ⟨rfl, h⟩
      · cases wk with
        | k W => exact h
        | c W x => exact absurd hb (by show ¬ ((decide (("x" : Str) = "x") && true) = false); decide)
      · cases wk with
        | k W => exact h.elim
        | c W x => exact h
    have ka : PV (spKA K) [.ref a.v, .str (rS r)] H1 (.str (kindR wk r)) := fun H2 e2 Q q => ⟨a, u, wk, r, rfl, e2 _ _ hv1, hw1.mono e2, cond, q⟩
    cases wk with
    | k W =>
      have hw1 : WAt K (cK K) H1 a.w W := hw1
      exact b_retN' (xn_call (ok_up T) hr (x_acons (x_fld (x_fld (x_var 0) hv1 T.cl_V T.nV_watch rfl) hw1.hw T.cl_K T.nK_law_book hw1.f1) (x_acons (x_meth (ok_kind_at T) hr (x_var 0) hv1 rfl (x_acons (x_var 1) x_anil) ka) x_anil)) (up hw1.hB hw1.O mk)) fun p H2 p0 e2 h => q p H2 (fresh_back e1 p0) (e1.trans e2) (h.keep (by decide) (fun o e => e) fun _ _ _ _ e => e)
    | c W x =>
      have hw1 : CwAt K H1 a.w W x := hw1
      exact b_retN' (xn_call (ok_up T) hr (x_acons (x_fld (x_fld (x_var 0) hv1 T.cl_V T.nV_watch rfl) hw1.wa.hw T.cl_W T.nW_law_book hw1.wa.f1) (x_acons (x_meth (ok_kind_at T) hr (x_var 0) hv1 rfl (x_acons (x_var 1) x_anil) ka) x_anil)) (up hw1.wa.hB hw1.wa.O mk)) fun p H2 p0 e2 h => q p H2 (fresh_back e1 p0) (e1.trans e2) (h.keep (by decide) (fun o e => e) fun _ _ _ _ e => e)
end
end Ls
/-! LsV13 -/
set_option Elab.async false
set_option linter.all false
set_option maxRecDepth 100000
namespace Ls
open PySem PySem.Spec PyProof.Rows L2 Lx Ln
open Evl (Ex Ex.refl Ex.trans Ex.mut Ex.new Ev EvT EvL EvU EvA ex_l ex_t ex_rd sq_of st_of sz_of sz_lt fresh_back)
open Lsm (X5 O3 Y4 L10 Le Wr Lb Qn Cf)
def rNum : R3 → Int | .x => 0 | .y => 1 | .z => 2
structure NumAt (K : PySem.W.Frag) (wd : World) (mg : Str → Option Value) : Prop where
  ex : ∃ d es n, mg "NUMBERS" = some (.ref d) ∧ KDict K wd d es n ∧ (es.toList.map fun e => textOf e.key).Nodup ∧ es.toList.length = 3 ∧ ∀ r, KDct K wd d (rS r) (.int (rNum r))
section
variable {P : Program} {wd : World} {K : PySem.W.Frag} {mg : Str → Option Value} {base : Heap}
/-! ### the weaver's things change -/
theorem rS_inj {r r' : R3} (h : rS r = rS r') : r = r' := by cases r <;> cases r' <;> first | rfl | exact absurd h (by decide)
theorem chD_put (cr : List (R3 × Addr)) (r : R3) (p : Addr) : ∃ cr', chD cr' = putK (chD cr) (Sum.inr (rS r) : Key) (.ref p) ∧ (∀ q ∈ cr', q ∈ cr ∨ q = (r, p)) ∧ (∀ q ∈ cr, ∃ q' ∈ cr', q'.1 = q.1) ∧ (∃ q ∈ cr', q.1 = r) ∧ cr'.length ≤ cr.length + 1 := by
  by_cases h : ∃ q ∈ cr, q.1 = r
  · refine ⟨cr.map fun q => if rS q.1 = rS r then (r, p) else q, ?_, fun q hq => ?_, fun q hq => ?_, ?_, by rw [List.length_map]; omega⟩
    · unfold putK
      have : (chD cr).any (fun kv => decide (kv.1 = (Sum.inr (rS r) : Key))) = true := by
        obtain ⟨q, hq, e⟩ := h
        exact List.any_eq_true.mpr ⟨_, List.mem_map.mpr ⟨q, hq, rfl⟩, by rw [e]; simp⟩
      rw [if_pos this]
      unfold chD
      rw [List.map_map, List.map_map]
      refine List.map_congr_left fun q hq => ?_
      simp only [Function.comp]
      by_cases e : rS q.1 = rS r
      · rw [if_pos e, if_pos (by rw [e]), e]
      · rw [if_neg e, if_neg (fun z => e (Sum.inr.inj z))]
    · obtain ⟨q0, h0, e⟩ := List.mem_map.mp hq
      split at e
      · exact .inr e.symm
      · exact .inl (e ▸ h0)
    · by_cases e : rS q.1 = rS r
      · exact ⟨_, List.mem_map.mpr ⟨q, hq, rfl⟩, by rw [if_pos e]; exact (rS_inj e).symm⟩
      · exact ⟨_, List.mem_map.mpr ⟨q, hq, rfl⟩, by rw [if_neg e]⟩
    · obtain ⟨q, hq, e⟩ := h
      exact ⟨_, List.mem_map.mpr ⟨q, hq, rfl⟩, by rw [if_pos (by rw [e])]⟩
  · refine ⟨cr ++ [(r, p)], ?_, fun q hq => ?_, fun q hq => ⟨q, List.mem_append_left _ hq, rfl⟩, ⟨(r, p), List.mem_append_right _ (List.mem_singleton.mpr rfl), rfl⟩, by rw [List.length_append, List.length_singleton]; exact Nat.le_refl _⟩
    · rw [putK_new]
      · unfold chD
        rw [List.map_append] <;> rfl
      · have : (valV (chD cr) (Sum.inr (rS r) : Key)).isSome = false := by
          rw [← valV_any]
          refine List.any_eq_false.mpr fun kv hkv => ?_
          obtain ⟨q, hq, rfl⟩ := List.mem_map.mp hkv
          simp only [decide_eq_true_eq]
          exact fun e => h ⟨q, hq, rS_inj (Sum.inr.inj e)⟩
        cases z : valV (chD cr) (Sum.inr (rS r) : Key) with
        | none => rfl
        | some _ => rw [z] at this; cases this
    · rcases List.mem_append.mp hq with hq | hq
      · exact .inl hq
      · exact .inr (List.mem_singleton.mp hq)
def KeepV (a : WvA) (H H' : Hp) : Prop := ∀ x o, x ≠ a.v → x ≠ a.m → x ≠ a.h → x ≠ a.ch → H x = some o → H' x = some o
theorem KeepV.of_ex {a : WvA} {H H' : Hp} (e : Ex H H') : KeepV a H H' := fun x o _ _ _ _ h => e x o h
theorem KeepV.trans {a : WvA} {H H1 H2 : Hp} (k : KeepV a H H1) (l : KeepV a H1 H2) : KeepV a H H2 := fun x o n1 n2 n3 n4 h => l x o n1 n2 n3 n4 (k x o n1 n2 n3 n4 h)
theorem KeepV.up {a : WvA} {H : Hp} {x : Addr} {o : HO} (h : x = a.v ∨ x = a.m ∨ x = a.h ∨ x = a.ch) : KeepV a H (upd H x o) := fun y u n1 n2 n3 n4 e => by
  rw [upd_ne (fun z => by subst z; rcases h with h | h | h | h <;> contradiction)]
  exact e
variable {a : WvA} {H0 H H' : Hp} {f : Bool} {mv mv' : List V} {hs hs' : List (Int × Le)} {cr cr' : List (R3 × Addr)} {u u' : Int}
theorem Wv.ex' (w : Wv K a H0 f mv hs cr u H) (k : KeepV a H H') : Ex H0 H' := fun x o h => k x o (fun z => by rw [z, w.v0] at h; cases h) (fun z => by rw [z, w.m0] at h; cases h) (fun z => by rw [z, w.h0] at h; cases h) (fun z => by rw [z, w.c0] at h; cases h) (w.ex _ _ h)
theorem Wv.ins (w : Wv K a H0 f mv hs cr u H) (k : KeepV a H H') {x C dx : Addr} {c : Col} (h : H x = some (.ins C dx (colF c))) : H' x = some (.ins C dx (colF c)) := k _ _ (fun z => by
  rw [z, w.hv] at h
  injection h with h
  injection h with _ _ h
  injection h with h
  injection h with h
  exact absurd h (by decide)) (fun z => by rw [z, w.hm] at h; cases h) (fun z => by rw [z, w.hh] at h; cases h) (fun z => by rw [z, w.hc] at h; cases h) h
theorem Wv.cols (w : Wv K a H0 f mv hs cr u H) (k : KeepV a H H') {n : Nat} {pl : Addr} (h : ColsL K n pl H) (n2 : pl ≠ a.m) : ColsL K n pl H' := by
  obtain ⟨cvs, cs, h1, h2, h3, h4⟩ := h
  exact ⟨cvs, cs, k _ _ (fun z => by rw [z, w.hv] at h1; cases h1) n2 (fun z => by rw [z, w.hh] at h1; cases h1) (fun z => by rw [z, w.hc] at h1; cases h1) h1, Paired.mapP h2 fun v c ⟨q, dx, e, h⟩ => ⟨q, dx, e, w.ins k h⟩, h3, h4⟩
theorem Wv.tup (w : Wv K a H0 f mv hs cr u H) (k : KeepV a H H') {x : Addr} {ts : List V} (h : H x = some (.tup ts)) : H' x = some (.tup ts) := k _ _ (fun z => by rw [z, w.hv] at h; cases h) (fun z => by rw [z, w.hm] at h; cases h) (fun z => by rw [z, w.hh] at h; cases h) (fun z => by rw [z, w.hc] at h; cases h) h
theorem Wv.keep (w : Wv K a H0 f mv hs cr u H) (k : KeepV a H H') (hv : H' a.v = some (.ins (cV K) a.dx (wvF a u'))) (hm : H' a.m = some (.lst mv')) (hh : H' a.h = some (.dK (heldD f hs'))) (hc : H' a.ch = some (.dK (chD cr'))) (ca : ∀ q ∈ cr', q ∈ cr ∨ ∃ pl i, H q.2 = some (.tup [.ref pl, .int i]) ∧ pl ≠ a.m ∧ ColsL K 20 pl H) : Wv K a H0 f mv' hs' cr' u' H' := by
  refine ⟨w.ex' k, w.v0, w.m0, w.h0, w.c0, hv, hm, hh, hc, w.ne, fun q hq => ?_⟩
  have : ∃ pl i, H q.2 = some (.tup [.ref pl, .int i]) ∧ pl ≠ a.m ∧ ColsL K 20 pl H := (ca q hq).elim (fun h => w.ca q h) id
  obtain ⟨pl, i, h1, h2, h3⟩ := this
  exact ⟨pl, i, w.tup k h1, h2, w.cols k h3 h2⟩
theorem Wv.nes (w : Wv K a H0 f mv hs cr u H) : a.m ≠ a.v ∧ a.m ≠ a.h ∧ a.m ≠ a.ch ∧ a.h ≠ a.v ∧ a.ch ≠ a.v := by
  refine ⟨fun z => ?_, fun z => ?_, fun z => ?_, fun z => ?_, fun z => ?_⟩
  · have := w.hm
    rw [z, w.hv] at this
    cases this
  · have := w.hm
    rw [z, w.hh] at this
    cases this
  · have := w.hm
    rw [z, w.hc] at this
    cases this
  · have := w.hh
    rw [z, w.hv] at this
    cases this
  · have := w.hc
    rw [z, w.hv] at this
    cases this
end
end Ls
/-! LsN12 -/
set_option Elab.async false
set_option linter.all false
set_option maxRecDepth 100000
namespace Lx
open PySem PySem.Spec PyProof.Rows L2 Evl
section
variable {X : Cx} {c : Expr} {sts sts2 els rest : List Stmt} {σ : L2.St} {H : Hp} {D : Ends} {pos : Pos}
/-- what is behind, told weaker -/
theorem b_mono {J : L2.St → Hp → Prop} (h : bT X sts { D with nx := J } σ H) (q : ∀ σ' H', J σ' H' → D.nx σ' H') : bT X sts D σ H := fun pins s I => thn (h pins s I) fun f s1 z => by
  cases f with
  | next => obtain ⟨σ1, H1, I1, j⟩ := z; exact ⟨σ1, H1, I1, q _ _ j⟩
  | ret v => exact z
  | brk => exact z
  | cont => exact z
/-- if, with what both ways have in common -/
theorem b_ifJ {b : Bool} (J : L2.St → Hp → Prop) (h : XT X c σ H b) (h1 : b = true → ∀ H1, Ex H H1 → bT X sts2 { D with nx := J } σ H1) (h2 : b = false → ∀ H1, Ex H H1 → bT X els { D with nx := J } σ H1) (q : ∀ σ' H', J σ' H' → bT X rest D σ' H') : bT X (.If c sts2 els pos :: rest) D σ H :=
  b_if h (fun hb H1 e1 => b_mono (h1 hb H1 e1) q) fun hb H1 e1 => b_mono (h2 hb H1 e1) q
end
end Lx
namespace Ls
open PySem PySem.Spec PyProof.Rows L2 Lx Ln
open Evl (Ex Ex.refl Ex.trans Ex.mut Ex.new Ev EvT EvL EvU EvA ex_l ex_t ex_rd sq_of st_of sz_of sz_lt fresh_back)
open Lsm (X5 O3 Y4 L10 Le Wr Lb Qn Cf)
section
variable {K : PySem.W.Frag} {a : WvA} {H0 H H' : Hp} {f : Bool} {mv : List V} {hs : List (Int × Le)} {cr : List (R3 × Addr)} {u : Int}
/-- a dict of one's own changes -/
theorem Wv.upO (w : Wv K a H0 f mv hs cr u H) {ow : Addr} {kvs : List (Key × V)} {o' : HO} (ho : H ow = some (.dK kvs)) (h0 : H0 ow = none) (n : ow ≠ a.v ∧ ow ≠ a.m ∧ ow ≠ a.h ∧ ow ≠ a.ch) : Wv K a H0 f mv hs cr u (upd H ow o') := by
  obtain ⟨n1, n2, n3, n4⟩ := n
  refine ⟨Ex.mut w.ex h0, w.v0, w.m0, w.h0, w.c0, by rw [upd_ne (Ne.symm n1)]; exact w.hv, by rw [upd_ne (Ne.symm n2)]; exact w.hm, by rw [upd_ne (Ne.symm n3)]; exact w.hh, by rw [upd_ne (Ne.symm n4)]; exact w.hc, w.ne, fun q hq => ?_⟩
  obtain ⟨pl, i, h1, h2, cvs, cs, h3, h4, h5⟩ := w.ca q hq
  exact ⟨pl, i, by rw [upd_ne (fun z => by rw [z, ho] at h1; cases h1)]; exact h1, h2, cvs, cs, by rw [upd_ne (fun z => by rw [z, ho] at h3; cases h3)]; exact h3, Paired.mapP h4 fun v c ⟨x, dx, e, h⟩ => ⟨x, dx, e, by rw [upd_ne (fun z => by rw [z, ho] at h; cases h)]; exact h⟩, h5⟩
theorem Wv.upM (w : Wv K a H0 f mv hs cr u H) (mv' : List V) : Wv K a H0 f mv' hs cr u (upd H a.m (.lst mv')) := w.keep (KeepV.up (.inr (.inl rfl))) (by rw [upd_ne (Ne.symm w.nes.1)]; exact w.hv) upd_same (by rw [upd_ne (Ne.symm w.nes.2.1)]; exact w.hh) (by rw [upd_ne (Ne.symm w.nes.2.2.1)]; exact w.hc) (fun q hq => .inl hq)
theorem Wv.upV (w : Wv K a H0 f mv hs cr u H) (u' : Int) : Wv K a H0 f mv hs cr u' (upd H a.v (.ins (cV K) a.dx (wvF a u'))) := w.keep (KeepV.up (.inl rfl)) upd_same (by rw [upd_ne w.nes.1]; exact w.hm) (by rw [upd_ne w.nes.2.2.2.1]; exact w.hh) (by rw [upd_ne w.nes.2.2.2.2]; exact w.hc) (fun q hq => .inl hq)
theorem Wv.upH (w : Wv K a H0 f mv hs cr u H) (hs' : List (Int × Le)) : Wv K a H0 f mv hs' cr u (upd H a.h (.dK (heldD f hs'))) := w.keep (KeepV.up (.inr (.inr (.inl rfl)))) (by rw [upd_ne (Ne.symm w.nes.2.2.2.1)]; exact w.hv) (by rw [upd_ne w.nes.2.1]; exact w.hm) upd_same (by rw [upd_ne (Ne.symm w.ne)]; exact w.hc) (fun q hq => .inl hq)
theorem Wv.lst (w : Wv K a H0 f mv hs cr u H) (k : KeepV a H H') {x : Addr} {xs : List V} (h : H x = some (.lst xs)) (n : x ≠ a.m) : H' x = some (.lst xs) := k _ _ (fun z => by rw [z, w.hv] at h; cases h) n (fun z => by rw [z, w.hh] at h; cases h) (fun z => by rw [z, w.hc] at h; cases h) h
theorem chD_at : ∀ {cr : List (R3 × Addr)} {r : R3}, (∃ q ∈ cr, q.1 = r) → ∃ q ∈ cr, valV (chD cr) (Sum.inr (rS r) : Key) = some (.ref q.2)
  | [], _, ⟨_, h, _⟩ => nomatch h
  | p :: cr, r, ⟨q, hq, e⟩ => by
    by_cases h : rS p.1 = rS r
    · exact ⟨p, List.mem_cons_self, valV_pos (p := ((Sum.inr (rS p.1) : Key), V.ref p.2)) (by rw [h])⟩
    · rcases List.mem_cons.mp hq with z | z
      · exact absurd (by rw [← z, e]) h
      · obtain ⟨q', hq', h'⟩ := chD_at ⟨q, z, e⟩
        exact ⟨q', List.mem_cons_of_mem _ hq', (valV_neg (p := ((Sum.inr (rS p.1) : Key), V.ref p.2)) (fun z => h (Sum.inr.inj z))).trans h'⟩
end
section
variable {X : Cx} {e : Expr} {σ : L2.St} {H : Hp} {pos : Pos} {w : Addr} {wk : Wk}
theorem x_wbook (T : Tf X.K X.mg) (ha : XE X e σ H (.ref w)) (hw : wk.At X.K H w) (hb : attributeBase e "law_book" X.env (eval e X.env) = eval e X.env := by rfl) : XE X (.Attribute e "law_book" pos) σ H (.ref wk.W.b) := by
  cases wk with
  | k W => exact x_fld ha (show WAt _ _ _ _ _ from hw).hw T.cl_K T.nK_law_book (show WAt _ _ _ _ _ from hw).f1 hb
  | c W x => exact x_fld ha (show CwAt _ _ _ _ _ from hw).wa.hw T.cl_W T.nW_law_book (show CwAt _ _ _ _ _ from hw).wa.f1 hb
theorem x_whome (T : Tf X.K X.mg) (ha : XE X e σ H (.ref w)) (hw : wk.At X.K H w) (hb : attributeBase e "home" X.env (eval e X.env) = eval e X.env := by rfl) : XE X (.Attribute e "home" pos) σ H (.str wk.W.home) := by
  cases wk with
  | k W => exact x_fld ha (show WAt _ _ _ _ _ from hw).hw T.cl_K T.nK_home (show WAt _ _ _ _ _ from hw).f2 hb
  | c W x => exact x_fld ha (show CwAt _ _ _ _ _ from hw).wa.hw T.cl_W T.nW_home (show CwAt _ _ _ _ _ from hw).wa.f2 hb
theorem kind_in {K : PySem.W.Frag} (hw : wk.At K H w) (r : R3) : kindR wk r ∈ wk.W.B.kN := by
  cases wk with
  | k W =>
    have hw : WAt _ _ _ _ _ := hw
    cases r <;> exact hw.hh
  | c W x =>
    have hw : CwAt _ _ _ _ _ := hw
    cases r
    · exact hw.wa.hh
    · exact (hw.wa.O.cs _ hw.mc).2.2
    · exact (hw.wa.O.cs _ hw.mc).2.2
theorem kR_len {K : PySem.W.Frag} (hw : wk.At K H w) (r : R3) : (kindR wk r).length ≤ 100 := by
  obtain ⟨q, hq, e⟩ := List.mem_map.mp (kind_in hw r)
  rw [← e]
  exact Nat.le_trans (hw.wa.O.nm q hq).hi (by decide)
end
end Ls
/-! LsV14 -/
set_option Elab.async false
set_option linter.all false
set_option maxRecDepth 100000
namespace Ls
open PySem PySem.Spec PyProof.Rows L2 Lx Ln
open Evl (Ex Ex.refl Ex.trans Ex.mut Ex.new Ev EvT EvL EvU EvA ex_l ex_t ex_rd sq_of st_of sz_of sz_lt fresh_back)
open Lsm (X5 O3 Y4 L10 Le Wr Lb Qn Cf)
section
variable {P : Program} {wd : World} {K : PySem.W.Frag} {mg : Str → Option Value} {base : Heap}
def oR : O3 → R3 | .y => .y | _ => .z
def spPR (K : PySem.W.Frag) : Sp := fun vs H Q _ => ∃ (a : WvA) (H0 : Hp) (wk : Wk) (f : Bool) (path : List Lb) (i : Nat) (mv : List V) (hs : List (Int × Le)) (cr : List (R3 × Addr)) (u : Int) (lb : Lb) (r : R3) (o : O3), vs = [.ref a.v, .int ((i : Nat) : Int)] ∧ Wv K a H0 f mv hs cr u H ∧ wk.At K H0 a.w ∧ WayL K f H0 a.pw path ∧
  path[i]? = some lb ∧ lbT f lb = [("put" : Str), rS r, oS o] ∧ (wk.isCol = true ∨ r = .x ∧ o = .no) ∧ (behind f r (path.drop (i + 1)) = true → r = .x ∧ wk.mkX ∨ r = .y ∧ wk.mkY) ∧ mv.length ≤ 90000 ∧ cr.length ≤ 90000 ∧
  ∀ H' mv' cr' u', Wv K a H0 f mv' hs cr' u' H' → mv'.length ≤ mv.length + 21 → cr'.length ≤ cr.length + 1 → (∀ q ∈ cr, ∃ q' ∈ cr', q'.1 = q.1) → (∃ q ∈ cr', q.1 = r) → Q .non H'
set_option maxHeartbeats 4000000 in
theorem ok_put_row (T : Tf K mg) (I : TfI K) (N : NumAt K wd mg) : C8.Met P wd K mg base 4 (cV K) "put_row" (spPR K) [] := by
  refine met_of (N := ["self", "at", "word", "row", "owner", "owners", "chain", "columns", "pairs", "column"]) T.m_V_put_row (by decide +kernel) (fun vs H Q E ⟨a, H0, wk, f, path, i, mv, hs, cr, u, lb, r, o, e, _⟩ => by rw [e]; rfl) fun f0 cdv A outer s H vs Q E hr nd h => ?_
  obtain ⟨a, H0, wk, f, path, i, mv, hs, cr, u, lb, r, o, rfl, w, hw, hway, hlb, et, hcol, hmk, lmv, lcr, q⟩ := h
  obtain ⟨nm, es, n, hN, KD, knd, klen, kd⟩ := N.ex
  have way := hway.mono w.ex
  obtain ⟨pvs, hpw, hpp⟩ := id way
  obtain ⟨x, hx, pl, rfl, hsq⟩ := prd_at' hpp hlb
  rw [et] at hsq
  refine b_asg (xp_e (x_ixL (x_fld (x_var 0) w.hv T.cl_V T.nV_way rfl) (x_var 1) hpw (at_i hx))) (pg_tup rfl (pgs_cons (pg_name (i := 2) nd rfl (.inl rfl)) (pgs_cons (pg_name (i := 3) nd rfl (.inl rfl)) (pgs_cons (pg_name (i := 4) nd rfl (.inl rfl)) pgs_nil)))) fun v H1 e1 ev => ⟨pl, _, ev, ex_t e1 hsq, rfl, _, _, rfl, _, _, rfl, _, _, rfl, rfl, ?_⟩
  have w1 := w.mono e1
  have hw1 : wk.At K H1 a.w := hw.mono w1.ex
  have o_no : decide (oS o = "-") = O3.isNo o := by cases o <;> decide
  refine b_setN 5 (R := fun p H => ∃ kvs : List (Key × V), H p = some (.dK kvs) ∧ kvs.length ≤ 5) (xn_ifE (t_is (t_eqS (x_var 4) x_str) o_no) (fun _ => xn_imp xn_dK fun p H2 _ h => ⟨[], h, by decide⟩) fun hb => ?_) fun ow H2 ow0 e2 ⟨kvs, how, lkv⟩ => ?_
  · cases wk with
    | k W =>
      rcases hcol with h | ⟨_, h⟩
      · cases h
      · rw [h] at hb
        cases hb
    | c W x =>
      have hw1 : CwAt K H1 a.w W x := hw1
      have kk : KDct K wd nm (oS o) (.int (rNum (oR o))) := by
        have := kd (oR o)
        cases o with
        | no => cases hb
        | y => exact this
        | z => exact this
      exact xn_imp (xn_disp (kvs := [(Sum.inr x.c.word, .int (rNum (oR o)))]) (d_cons (x_fld (x_fld (x_fld (x_var 0) w1.hv T.cl_V T.nV_watch rfl) hw1.wa.hw T.cl_W T.nW_by hw1.g1) hw1.hc T.cl_C T.nC_word (colF_word _)) (x_kdct (x_glob (v := .ref nm) hN rfl) (x_var 4) kk) d_nil) rfl) fun p H2 _ h => ⟨_, h, Nat.le_trans (length_mergeK _ _) (by decide : 0 + 1 ≤ 5)⟩
  have w2 := w1.mono e2
  have hw2 := hw1.mono e2
  have x2 : Ex H H2 := e1.trans e2
  refine b_setN 6 (R := ColsL K 20) (xn_ifE (t_val (x_meth (ok_behind_mark T) hr (x_var 0) w2.hv rfl (x_acons (x_var 1) (x_acons (x_var 3) x_anil)) (z := .bl (behind f r (path.drop (i + 1)))) fun H3 e3 Q q => ⟨a, u, f, path, i, r, rfl, e3 _ _ w2.hv, way.mono (x2.trans e3), q⟩)) (fun hb => xn_meth (ok_chain_of T I) hr (x_var 0) w2.hv rfl (x_acons (x_var 3) x_anil) fun H3 e3 Q q => ⟨a, u, wk, r, rfl, e3 _ _ w2.hv, hw2.mono e3, hmk hb, q⟩) fun _ => xn_imp (xn_l (x_lst x_anil)) fun p H3 _ h => ⟨[], [], h, .nil, Nat.zero_le _, fun c hc => absurd hc (List.not_mem_nil)⟩) fun pc H3 pc0 e3 hch => ?_
  have w3 := w2.mono e3
  have hw3 := hw2.mono e3
  have pcm : pc ≠ a.m := fun z => by rw [z, w2.hm] at pc0; cases pc0
  have owm : ow ≠ a.v ∧ ow ≠ a.m ∧ ow ≠ a.h ∧ ow ≠ a.ch := ⟨(fun z => by rw [z, w1.hv] at ow0; cases ow0), (fun z => by rw [z, w1.hm] at ow0; cases ow0), (fun z => by rw [z, w1.hh] at ow0; cases ow0), (fun z => by rw [z, w1.hc] at ow0; cases ow0)⟩
  have how3 := e3 _ _ how
  refine b_dputN (H4 := fun p H => upd H a.ch (.dK (putK (chD cr) (Sum.inr (rS r) : Key) (.ref p)))) (R := fun p H => H p = some (.tup [.ref pc, .int u])) hr (xn_u (x_tup (x_acons (x_var 6) (x_acons (x_fld (x_var 0) w3.hv T.cl_V T.nV_unused rfl) x_anil)))) (x_fld (x_var 0) w3.hv T.cl_V T.nV_chains rfl) (x_var 3) (fun cp H4 cp0 e4 hcp => ⟨DPut.k (k := Sum.inr (rS r)) (e4 _ _ w3.hc) (sz_lt (by unfold chD; rw [List.length_map]; omega)), ?_⟩) fun v H1 H2 e h => e _ _ h
  obtain ⟨cr', ecr, c1, c2, c3, c4⟩ := chD_put cr r cp
  rw [← ecr]
  have w4 := w3.mono e4
  have hch4 : ColsL K 20 pc H4 := hch.keep (Nat.le_refl _) (fun o h => e4 _ _ h) fun _ _ _ _ h => e4 _ _ h
  obtain ⟨n1, n2, n3, n4, n5⟩ := w.nes
  have w5 : Wv K a H0 f mv hs cr' u (upd H4 a.ch (.dK (chD cr'))) := w4.keep (KeepV.up (.inr (.inr (.inr rfl)))) (by rw [upd_ne (Ne.symm n5)]; exact w4.hv) (by rw [upd_ne n3]; exact w4.hm) (by rw [upd_ne w.ne]; exact w4.hh) upd_same fun q hq => (c1 q hq).imp id fun e => ⟨pc, u, by rw [e]; exact hcp, pcm, hch4⟩
  have hch5 : ColsL K 20 pc (upd H4 a.ch (.dK (chD cr'))) := w4.cols (KeepV.up (.inr (.inr (.inr rfl)))) hch4 pcm
  have how5 : upd H4 a.ch (.dK (chD cr')) ow = some (.dK kvs) := by rw [upd_ne owm.2.2.2]; exact e4 _ _ how3
  generalize upd H4 a.ch (.dK (chD cr')) = G5 at w5 hch5 how5 ⊢
  have ow00 : H0 ow = none := fresh_back (w.ex.trans e1) ow0
  obtain ⟨cvs, cs, hp5, hpr5, hl5, hwl5⟩ := id hch5
  have lcs := paired_len hpr5
  have pow : pc ≠ ow := fun z => by rw [z, how5] at hp5; cases hp5
  refine b_ifJ (fun σ' H' => ∃ mv' u' kvs', σ' = [some (.ref a.v), some (.int ((i : Nat) : Int)), some (.str "put"), some (.str (rS r)), some (.str (oS o)), some (.ref ow), some (.ref pc), none, none, none] ∧ Wv K a H0 f mv' hs cr' u' H' ∧ mv'.length ≤ mv.length + 20 ∧ H' ow = some (.dK kvs')) (t_gt (x_lenL T.b_len (x_var 6) (sq_of hp5)) x_int) (fun hb H6 e6 => ?_) (fun hb H6 e6 => b_nil ⟨mv, u, kvs, rfl, w5.mono e6, by omega, e6 _ _ how5⟩) ?_
  · have lpos : 0 < cvs.length := by have := of_decide_eq_true hb; omega
    obtain ⟨c0, hc0, pc0, dx0, ec0, hpc0⟩ := prd_at hpr5 (List.getElem?_eq_getElem lpos)
    have w6 := w5.mono e6
    refine b_extN (S := LenL 20) w6.hm (x_fld (x_var 0) w6.hv T.cl_V T.nV_made rfl) (xn_call (ok_put_chain T) hr (x_acons (x_var 6) (x_acons (x_fld (x_var 0) w6.hv T.cl_V T.nV_unused rfl) x_anil)) fun H7 e7 Q q => ⟨pc, 20, u, rfl, hch5.keep (Nat.le_refl _) (fun o h => (e6.trans e7) _ _ h) (fun _ _ _ _ h => (e6.trans e7) _ _ h), by decide, q⟩) (fun p H7 e7 ⟨ys, h1, h2⟩ => ⟨ys, h1, by omega⟩) fun pl ys H7 e7 pl0 hlen hys => ?_
    have ly : ys.length ≤ 20 := by
      obtain ⟨ys', hy1, hy2⟩ := hlen
      rw [hys] at hy1
      injection hy1 with hy1
      injection hy1 with hy1
      rw [hy1]
      exact hy2
    have w7 := w6.mono e7
    have w8 := w7.upM (mv ++ ys)
    have how8 : upd H7 a.m (.lst (mv ++ ys)) ow = some (.dK kvs) := by rw [upd_ne owm.2.1]; exact e7 _ _ (e6 _ _ how5)
    have hp8 : upd H7 a.m (.lst (mv ++ ys)) pc = some (.lst cvs) := by rw [upd_ne pcm]; exact e7 _ _ (e6 _ _ hp5)
    have hpc8 := w7.ins (KeepV.up (o := .lst (mv ++ ys)) (.inr (.inl rfl))) (e7 _ _ (e6 _ _ hpc0))
    generalize upd H7 a.m (.lst (mv ++ ys)) = G8 at w8 how8 hp8 hpc8 ⊢
    have at0 : atI cvs 0 = some (.ref pc0) := by
      rw [← ec0]
      exact at_i (i := 0) (List.getElem?_eq_getElem lpos)
    refine b_dput (S := fun v _ => v = .int u) (H4 := fun H => upd H ow (.dK (putK kvs (Sum.inr c0.word : Key) (.int u)))) hr (xp_e (x_fld (x_var 0) w8.hv T.cl_V T.nV_unused rfl)) (x_var 5) (x_fld (x_ixL (x_var 6) x_int (sq_of hp8) at0) hpc8 T.cl_C T.nC_word (colF_word c0)) (fun v H9 e9 ev => ⟨by rw [ev]; exact DPut.k (k := Sum.inr c0.word) (e9 _ _ how8) (sz_lt (by omega)), ?_⟩) fun v H1 H2 e h => h
    have w10 := (w8.mono e9).upO (o' := .dK (putK kvs (Sum.inr c0.word : Key) (.int u))) (e9 _ _ how8) ow00 owm
    have hp10 : upd H9 ow (.dK (putK kvs (Sum.inr c0.word : Key) (.int u))) pc = some (.lst cvs) := by rw [upd_ne pow]; exact e9 _ _ hp8
    have how10 : upd H9 ow (.dK (putK kvs (Sum.inr c0.word : Key) (.int u))) ow = some (.dK (putK kvs (Sum.inr c0.word : Key) (.int u))) := upd_same
    generalize upd H9 ow (.dK (putK kvs (Sum.inr c0.word : Key) (.int u))) = G10 at w10 hp10 how10 ⊢
    refine b_fldAdd (x_var 0) w10.hv T.cl_V T.nV_unused rfl (by exact Nat.le_of_ble_eq_true rfl) (x_lenL T.b_len (x_var 6) (sq_of hp10)) fun H11 e11 => b_nil ⟨mv ++ ys, u + cvs.length, _, rfl, (w10.mono e11).upV _, by rw [List.length_append]; omega, by rw [upd_ne owm.1]; exact e11 _ _ how10⟩
  rintro σ' H6 ⟨mv', u', kvs', rfl, w6, lmv', how6⟩
  have hw6 := hw.mono w6.ex
  have wa6 := hw6.wa
  have hcond : wk.isCol = true ∨ r = .x := hcol.imp id fun h => h.1
  have kaa : ∀ {H1}, Ex H6 H1 → PV (spKA K) [.ref a.v, .str (rS r)] H1 (.str (kindR wk r)) := fun e H2 e2 Q q => ⟨a, u', wk, r, rfl, e2 _ _ (e _ _ w6.hv), (hw6.mono e).mono e2, hcond, q⟩
  refine b_setN 7 (xn_meth (ok_columns_of T) hr (x_wbook T (x_fld (x_var 0) w6.hv T.cl_V T.nV_watch rfl) hw6) wa6.hB.hb (by rfl) (x_acons (x_meth (ok_kind_at T) hr (x_var 0) w6.hv rfl (x_acons (x_var 3) x_anil) (kaa (Ex.refl _))) x_anil) fun H7 e7 Q q => ⟨wk.W.b, kindR wk r, wk.W.a, wk.W.B, rfl, wa6.hB.mono e7, wa6.O, kind_in hw6 r, q⟩) fun pcl H7 pcl0 e7 hcl => ?_
  have how7 := e7 _ _ how6
  have lcl : (wk.W.B.cols.filter fun c => decide (c.home = kindR wk r)).length ≤ 10 := Nat.le_trans (List.length_filter_le _ _) wa6.O.l2
  refine b_setN 8 (R := fun _ _ => True) (xn_ty_n call_tuple_of T.b_tuple (show bootBuiltins "tuple" = some (.type "tuple") by decide +kernel) (xn_lc 9 (Rp := fun c x => x = V.str (Col.word c)) (R := fun _ v _ => ∃ p, v = V.ref p) (f := fun c => (valV kvs' (Sum.inr (Col.word c) : Key)).isSome) (src_l (x_var 7) (sq_of hcl)) (paired_of_eq _) (fun _ => stb_pure) (by omega) fun c x H8 hc e8 ex sh H0' C cl fp => ?_) fun p H8 e8 ⟨vs, h1, _⟩ H9 e9 Q q => ⟨p, vs, rfl, .inl ⟨sq_of (e9 _ _ h1), fun l hl => q l _ hl (Ex.new hl) trivial⟩⟩) fun pp H8 pp0 e8 _ => ?_
  · subst ex
    refine ⟨ts_one (t_inD hr (x_var 9) (x_var 5) (get_s (.inl (e8 _ _ how7)))), fun hf => ?_⟩
    obtain ⟨v, hv⟩ := Option.isSome_iff_exists.mp hf
    have g := get_s (k := c.word) (.inl (e8 _ _ how7) : Rd H8 ow _)
    rw [hv] at g
    exact xp_imp (xp_n (xn_u (x_tup (x_acons (x_var 9) (x_acons (x_dget hr (x_var 5) (x_var 9) g) x_anil))))) fun v H _ h => by
      obtain ⟨p, e, _⟩ := h
      exact ⟨p, e⟩
  have w8 := (w6.mono e7).mono e8
  refine b_appP (S := fun _ _ => True) w8.hm (x_fld (x_var 0) w8.hv T.cl_V T.nV_made rfl) (xp_imp (xp_n (xn_u (x_tup (x_acons x_str (x_acons (x_meth (ok_kind_at T) hr (x_var 0) w8.hv rfl (x_acons (x_var 3) x_anil) (kaa (e7.trans e8))) (x_acons (x_kdct (x_glob (v := .ref nm) hN rfl) (x_var 3) (kd r)) (x_acons (x_var 8) x_anil))))))) fun _ _ _ _ => trivial) (by omega) fun v H9 e9 _ => b_nil (q _ (mv' ++ [v]) cr' u' ((w8.mono e9).upM _) (by rw [List.length_append, List.length_singleton]; omega) c4 c2 c3)
end
end Ls
/-! LsV15 -/
set_option Elab.async false
set_option linter.all false
set_option maxRecDepth 100000
namespace Ls
open PySem PySem.Spec PyProof.Rows L2 Lx Ln
open Evl (Ex Ex.refl Ex.trans Ex.mut Ex.new Ev EvT EvL EvU EvA ex_l ex_t ex_rd sq_of st_of sz_of sz_lt fresh_back)
open Lsm (X5 O3 Y4 L10 Le Wr Lb Qn Cf)
section
variable {P : Program} {wd : World} {K : PySem.W.Frag} {mg : Str → Option Value} {base : Heap}
def spMR (K : PySem.W.Frag) : Sp := fun vs H Q _ => ∃ (a : WvA) (H0 : Hp) (wk : Wk) (f : Bool) (mv : List V) (hs : List (Int × Le)) (cr : List (R3 × Addr)) (u : Int) (r : R3), vs = [.ref a.v, .str (rS r)] ∧ Wv K a H0 f mv hs cr u H ∧ wk.At K H0 a.w ∧ (wk.isCol = true ∨ r = .x) ∧ (∃ q ∈ cr, q.1 = r) ∧ mv.length ≤ 90000 ∧
  ∀ H' mv', Wv K a H0 f mv' hs cr u H' → mv'.length ≤ mv.length + 41 → Q .non H'
theorem ok_mark_row (T : Tf K mg) (N : NumAt K wd mg) : C8.Met P wd K mg base 2 (cV K) "mark_row" (spMR K) [] := by
  refine met_of (N := ["self", "row", "chain", "first"]) T.m_V_mark_row (by decide +kernel) (fun vs H Q E ⟨a, H0, wk, f, mv, hs, cr, u, r, e, _⟩ => by rw [e]; rfl) fun f0 cdv A outer s H vs Q E hr nd h => ?_
  obtain ⟨a, H0, wk, f, mv, hs, cr, u, r, rfl, w, hw, hcond, hcr, lmv, q⟩ := h
  obtain ⟨nm, es, n, hN, KD, knd, klen, kd⟩ := N.ex
  obtain ⟨qc, hqc, eqc⟩ := chD_at hcr
  obtain ⟨pl, i, h1, h2, h3⟩ := w.ca qc hqc
  have g := get_s (k := rS r) (.inl w.hc : Rd H a.ch _)
  rw [eqc] at g
  refine b_asg (xp_e (x_dget hr (x_fld (x_var 0) w.hv T.cl_V T.nV_chains rfl) (x_var 1) g)) (pg_tup rfl (pgs_cons (pg_name (i := 2) nd rfl (.inl rfl)) (pgs_cons (pg_name (i := 3) nd rfl (.inl rfl)) pgs_nil))) fun v H1 e1 ev => ⟨qc.2, _, ev, st_of (e1 _ _ h1), rfl, _, _, rfl, _, _, rfl, rfl, ?_⟩
  have w1 := w.mono e1
  have hw1 := hw.mono w1.ex
  have h31 : ColsL K 20 pl H1 := h3.keep (Nat.le_refl _) (fun o h => e1 _ _ h) fun _ _ _ _ h => e1 _ _ h
  obtain ⟨cvs, cs, hp, hpr, hl, hwl⟩ := id h31
  refine b_if (t_gt (x_lenL T.b_len (x_var 2) (sq_of hp)) x_int) (fun hb H2 e2 => ?_) fun hb H2 e2 => ?_
  · have w2 := w1.mono e2
    have lpos : 0 < cvs.length := by have := of_decide_eq_true hb; omega
    refine b_extN (S := LenL 41) w2.hm (x_fld (x_var 0) w2.hv T.cl_V T.nV_made rfl) (xn_call (ok_mark_by T) hr (x_acons (x_var 2) (x_acons (x_var 3) (x_acons (x_kdct (x_glob (v := .ref nm) hN rfl) (x_var 1) (kd r)) x_anil))) fun H3 e3 Q q => ⟨pl, 20, i, rNum r, rfl, h31.keep (Nat.le_refl _) (fun o h => (e2.trans e3) _ _ h) (fun _ _ _ _ h => (e2.trans e3) _ _ h), ?_, by decide, q⟩) (fun p H3 e3 ⟨ys, h1, h2⟩ => ⟨ys, h1, by omega⟩) fun p ys H3 e3 p0 hlen hys => b_nil (b_nil (q _ (mv ++ ys) ((w2.mono e3).upM _) ?_))
    · cases cvs with
      | nil => cases lpos
      | cons v ws => exact ⟨v, ws, e3 _ _ (e2 _ _ hp)⟩
    · obtain ⟨ys', hy1, hy2⟩ := hlen
      rw [hys] at hy1
      injection hy1 with hy1
      injection hy1 with hy1
      rw [List.length_append, hy1]
      omega
  · have w2 := w1.mono e2
    have hw2 := hw1.mono e2
    refine b_appP (S := fun _ _ => True) w2.hm (x_fld (x_var 0) w2.hv T.cl_V T.nV_made rfl) (xp_imp (xp_n (xn_u (x_tup (x_acons x_str (x_acons (x_meth (ok_kind_at T) hr (x_var 0) w2.hv rfl (x_acons (x_var 1) x_anil) (z := .str (kindR wk r)) fun H3 e3 Q q => ⟨a, u, wk, r, rfl, e3 _ _ w2.hv, hw2.mono e3, hcond, q⟩) (x_acons (x_kdct (x_glob (v := .ref nm) hN rfl) (x_var 1) (kd r)) x_anil)))))) fun _ _ _ _ => trivial) (by omega) fun v H9 e9 _ => b_nil (b_nil (q _ (mv ++ [v]) ((w2.mono e9).upM _) (by rw [List.length_append, List.length_singleton]; omega)))
/-! ### the lists held -/
def HOk (hs : List (Int × Le)) (l : L10) : Prop := (hs = [] ∧ l = .e) ∨ (∃ i k, (i = 0 ∨ i = 1) ∧ hs = [(i, k)] ∧ L10.e.add k = some l) ∨ ∃ i k j l1, (i = 0 ∨ i = 1) ∧ hs = [(i, k), (1 - i, j)] ∧ L10.e.add k = some l1 ∧ l1.add j = some l
theorem held_look {f : Bool} {hs : List (Int × Le)} {l l' : L10} {k : Le} (h : HOk hs l) (a : l.add k = some l') : ∃ hs', putK (heldD f hs) (Sum.inl (if (valV (heldD f hs) (Sum.inl 0 : Key)).isSome = true then 1 else 0) : Key) (.str (kS f k)) = heldD f hs' ∧ HOk hs' l' := by
  rcases h with ⟨rfl, rfl⟩ | ⟨i, k0, hi, rfl, e⟩ | ⟨i, k0, j, l1, hi, rfl, e, e2⟩
  · exact ⟨[(0, k)], by simp [heldD, putK, valV], .inr (.inl ⟨0, k, .inl rfl, rfl, a⟩)⟩
  · rcases hi with rfl | rfl
    · exact ⟨[(0, k0), (1, k)], by simp [heldD, putK, valV], .inr (.inr ⟨0, k0, k, l, .inl rfl, rfl, e, a⟩)⟩
    · exact ⟨[(1, k0), (0, k)], by simp [heldD, putK, valV], .inr (.inr ⟨1, k0, k, l, .inr rfl, rfl, e, a⟩)⟩
  · exfalso
    cases k0 <;> cases e <;> cases j <;> cases e2 <;> cases k <;> cases a
theorem held_rem {hs : List (Int × Le)} {l l' : L10} {k : Le} (h : HOk hs l) (r : l.rem k = some l') : (∃ q ∈ hs, q.2 = k) ∧ ∀ m ∈ (hs.filter fun q => decide (q.2 = k)).map (·.1), HOk (hs.filter fun q => decide (q.1 ≠ m)) l' := by
  rcases h with ⟨rfl, rfl⟩ | ⟨i, k0, hi, rfl, e⟩ | ⟨i, k0, j, l1, hi, rfl, e, e2⟩
  · cases k <;> cases r
  · have ek : k0 = k ∧ l' = .e := by cases k0 <;> cases e <;> cases k <;> cases r <;> exact ⟨rfl, rfl⟩
    obtain ⟨rfl, rfl⟩ := ek
    refine ⟨⟨_, List.mem_cons_self, rfl⟩, fun m hm => ?_⟩
    have em : m = i := by simpa using hm
    subst em
    exact .inl ⟨by simp, rfl⟩
  · have ni : (1 - i : Int) ≠ i := by omega
    by_cases h1 : k0 = k
    · subst h1
      have e3 : L10.e.add j = some l' := by cases k0 <;> cases e <;> cases j <;> cases e2 <;> cases r <;> rfl
      refine ⟨⟨_, List.mem_cons_self, rfl⟩, fun m hm => ?_⟩
      by_cases h2 : j = k0
      · subst h2
        have em : m = i ∨ m = 1 - i := by simpa using hm
        rcases em with rfl | rfl
        · refine .inr (.inl ⟨1 - m, j, by omega, ?_, e3⟩)
          simp [ni]
        · refine .inr (.inl ⟨i, j, hi, ?_, e3⟩)
          simp [Ne.symm ni]
      · have em : m = i := by simpa [h2] using hm
        subst em
        refine .inr (.inl ⟨1 - m, j, by omega, ?_, e3⟩)
        simp [ni]
    · have h2 : j = k := by
        cases k0 <;> cases e <;> cases j <;> cases e2 <;> cases k <;> first | exact absurd rfl h1 | rfl | exact nomatch r
      subst h2
      have e3 : L10.e.add k0 = some l' := by cases k0 <;> cases e <;> cases j <;> cases e2 <;> cases r <;> rfl
      refine ⟨⟨_, List.mem_cons_of_mem _ List.mem_cons_self, rfl⟩, fun m hm => ?_⟩
      have em : m = 1 - i := by simpa [h1] using hm
      subst em
      refine .inr (.inl ⟨i, k0, hi, ?_, e3⟩)
      simp [Ne.symm ni]
theorem HOk.len {hs : List (Int × Le)} {l : L10} (h : HOk hs l) : hs.length ≤ 2 := by
  rcases h with ⟨rfl, rfl⟩ | ⟨i, k0, hi, rfl, e⟩ | ⟨i, k0, j, l1, hi, rfl, e, e2⟩ <;> simp
theorem held_drop {f : Bool} (hs : List (Int × Le)) (m : Int) : dropK (heldD f hs) (Sum.inl m : Key) = heldD f (hs.filter fun q => decide (q.1 ≠ m)) := by
  induction hs with
  | nil => rfl
  | cons q hs ih =>
    unfold heldD dropK at ih ⊢
    rw [List.map_cons, List.filter_cons, List.filter_cons]
    by_cases h : q.1 = m
    · subst h
      simpa using ih
    · have h1 : decide ((Sum.inl q.1 : Key) ≠ Sum.inl m) = true := decide_eq_true fun z => h (Sum.inl.inj z)
      have h2 : decide (q.1 ≠ m) = true := decide_eq_true h
      simp only [h1, h2, if_true, List.map_cons]
      rw [ih]
theorem kS_inj {f : Bool} {a b : Le} (h : kS f a = kS f b) : a = b := by cases f <;> cases a <;> cases b <;> first | rfl | exact absurd h (by decide)
end
end Ls
/-! LsV16 -/
set_option Elab.async false
set_option linter.all false
set_option maxRecDepth 100000
namespace Ls
open PySem PySem.Spec PyProof.Rows L2 Lx Ln
open Evl (Ex Ex.refl Ex.trans Ex.mut Ex.new Ev EvT EvL EvU EvA ex_l ex_t ex_rd sq_of st_of sz_of sz_lt fresh_back)
open Lsm (X5 O3 Y4 L10 Le Wr Lb Qn Cf)
section
variable {P : Program} {wd : World} {K : PySem.W.Frag} {mg : Str → Option Value} {base : Heap}
def rowOf : Le → R3 | .y => .y | _ => .x
def isA : Le → Bool | .a => true | _ => false
theorem k_rowY (f : Bool) (k : Le) : decide (kS f k = "Y") = (match k with | .y => true | _ => false) := by cases f <;> cases k <;> decide
def spLF (K : PySem.W.Frag) : Sp := fun vs H Q _ => ∃ (a : WvA) (H0 : Hp) (wk : Wk) (f : Bool) (mv : List V) (hs : List (Int × Le)) (cr : List (R3 × Addr)) (u : Int) (k : Le) (l l' : L10), vs = [.ref a.v, .str (kS f k)] ∧ Wv K a H0 f mv hs cr u H ∧ wk.At K H0 a.w ∧ (wk.isCol = true ∨ k = .x) ∧ HOk hs l ∧ l.add k = some l' ∧ mv.length ≤ 90000 ∧
  ∀ H' mv' hs', Wv K a H0 f mv' hs' cr u H' → HOk hs' l' → mv'.length ≤ mv.length + 1 → Q .non H'
set_option maxHeartbeats 1000000 in
theorem ok_look_for (T : Tf K mg) (N : NumAt K wd mg) : C8.Met P wd K mg base 2 (cV K) "look_for" (spLF K) [] := by
  refine met_of (N := ["self", "letter", "hand", "row", "piece"]) T.m_V_look_for (by decide +kernel) (fun vs H Q E ⟨a, H0, wk, f, mv, hs, cr, u, k, l, l', e, _⟩ => by rw [e]; rfl) fun f0 cdv A outer s H vs Q E hr nd h => ?_
  obtain ⟨a, H0, wk, f, mv, hs, cr, u, k, l, l', rfl, w, hw, hcond, hok, hadd, lmv, q⟩ := h
  obtain ⟨nm, es, n, hN, KD, knd, klen, kd⟩ := N.ex
  refine b_set 2 (x_ifE (v := .int (if (valV (heldD f hs) (Sum.inl 0 : Key)).isSome = true then 1 else 0)) (t_niD hr x_int (x_fld (x_var 0) w.hv T.cl_V T.nV_held rfl) (get_k (k := Sum.inl 0) (.inl w.hh))) (fun hb => ?_) (fun hb => ?_)) fun H1 e1 => ?_
  · cases z : (valV (heldD f hs) (Sum.inl 0 : Key)).isSome with
    | true => rw [z] at hb; cases hb
    | false => exact x_int
  · cases z : (valV (heldD f hs) (Sum.inl 0 : Key)).isSome with
    | true => exact x_int
    | false => rw [z] at hb; cases hb
  obtain ⟨hs', eh, hok'⟩ := held_look (f := f) hok hadd
  have w1 := w.mono e1
  refine b_dput (S := fun v _ => v = .str (kS f k)) (H4 := fun H => upd H a.h (.dK (putK (heldD f hs) (Sum.inl (if (valV (heldD f hs) (Sum.inl 0 : Key)).isSome = true then 1 else 0) : Key) (.str (kS f k))))) hr (xp_e (x_var 1)) (x_fld (x_var 0) w1.hv T.cl_V T.nV_held rfl) (x_var 2) (fun v H2 e2 ev => ⟨by rw [ev]; exact DPut.k (k := Sum.inl _) (e2 _ _ w1.hh) (sz_lt (by unfold heldD; rw [List.length_map]; have := hok.len; omega)), ?_⟩) fun _ _ _ _ h => h
  rw [eh]
  have w2 := (w1.mono e2).upH hs'
  generalize upd H2 a.h (.dK (heldD f hs')) = G2 at w2 ⊢
  generalize (if (valV (heldD f hs) (Sum.inl 0 : Key)).isSome = true then (1 : Int) else 0) = hand
  have hw2 := hw.mono w2.ex
  refine b_set 3 (x_ifE (v := .str (rS (rowOf k))) (t_is (t_eqS (x_var 1) x_str) (k_rowY f k)) (fun hb => ?_) fun hb => ?_) fun H3 e3 => ?_
  · cases k <;> first | exact x_str | cases hb
  · cases k <;> first | exact x_str | cases hb
  have w3 := w2.mono e3
  have hw3 := hw2.mono e3
  have hcond2 : wk.isCol = true ∨ rowOf k = .x := hcond.imp id fun h => by rw [h]; rfl
  have kaa : PV (spKA K) [.ref a.v, .str (rS (rowOf k))] H3 (.str (kindR wk (rowOf k))) := fun H4 e4 Q q => ⟨a, u, wk, rowOf k, rfl, e4 _ _ w3.hv, hw3.mono e4, hcond2, q⟩
  have klen' := kR_len hw3 (rowOf k)
  have lf : (Str.empty ++ ("fell " : Str)).length = 5 := by decide
  refine b_set 4 (x_join (j_str (j_fmt (x_meth (ok_kind_at T) hr (x_var 0) w3.hv rfl (x_acons (x_var 3) x_anil) kaa) j_nil (by omega) (by rw [len_app]; omega)) (by omega))) fun H4 e4 => ?_
  have w4 := w3.mono e4
  have hw4 := hw3.mono e4
  refine b_ifJ (fun σ' H' => ∃ v, σ' = [some (.ref a.v), some (.str (kS f k)), some (.int hand), some (.str (rS (rowOf k))), some v] ∧ Wv K a H0 f mv hs' cr u H') (t_is (t_inU (x_var 1) (x_tup (x_acons x_str (x_acons x_str x_anil)))) (b' := isA k) (by cases f <;> cases k <;> decide)) (fun hb H5 e5 => ?_) (fun hb H5 e5 => b_nil ⟨_, rfl, w4.mono e5⟩) ?_
  · have ek : k = .a := by cases k <;> first | rfl | cases hb
    subst ek
    have w5 := w4.mono e5
    cases wk with
    | k W =>
      rcases hcond with h | h <;> cases h
    | c W x =>
      have hw5 : CwAt K H5 a.w W x := CwAt.mono hw4 e5
      have lw : x.c.word.length ≤ 8 := (hw5.wa.O.cs _ hw5.mc).1.hi
      refine b_set 4 (x_adds (s := if f then ("spread " : Str) else ("clear " : Str)) (x_ifE (t_is (t_eqS (x_var 1) x_str) (b' := f) (by cases f <;> decide)) (fun h => by rw [h]; exact x_str) fun h => by rw [h]; exact x_str) (x_fld (x_fld (x_fld (x_var 0) w5.hv T.cl_V T.nV_watch rfl) hw5.wa.hw T.cl_W T.nW_by hw5.g1) hw5.hc T.cl_C T.nC_word (colF_word _)) ?_) fun H6 e6 => b_nil ⟨_, rfl, w5.mono e6⟩
      have : (if f then ("spread " : Str) else ("clear " : Str)).length ≤ 7 := by cases f <;> decide
      omega
  rintro σ' H5 ⟨v, rfl, w5⟩
  refine b_appP (S := fun _ _ => True) w5.hm (x_fld (x_var 0) w5.hv T.cl_V T.nV_made rfl) (xp_imp (xp_tup (R := fun vs _ => ∃ r, vs = V.str "look" :: r ∧ ∃ r2, r = V.int hand :: r2 ∧ ∃ r3, r2 = v :: r3 ∧ ∃ v4 r4, r3 = v4 :: r4 ∧ True ∧ r4 = []) (xap_x x_str (xap_x (x_var 2) (xap_x (x_var 4) (xap_cons (P := fun _ _ => True) (R := fun r _ => r = []) (xp_imp (xp_n (xn_u (x_tup (x_acons (x_kdct (x_glob (v := .ref nm) hN rfl) (x_var 3) (kd (rowOf k))) x_anil)))) fun _ _ _ _ => trivial) (xap_e x_anil) fun _ _ _ _ h => h)))) (fun vs H ⟨r, h1, r2, h2, r3, h3, v4, r4, h4, _, h5⟩ => by rw [h1, h2, h3, h4, h5]; show 4 ≤ 100000; decide) fun vs H1 H2 _ h => h) fun _ _ _ _ => trivial) (by omega) fun v H9 e9 _ => b_nil (q _ (mv ++ [v]) hs' ((w5.mono e9).upM _) hok' (by rw [List.length_append, List.length_singleton]; omega))
end
end Ls
/-! LsV17 -/
set_option Elab.async false
set_option linter.all false
set_option maxRecDepth 100000
namespace Lx
open PySem PySem.Spec PyProof.Rows L2 Evl
section
variable {X : Cx} {a c e : Expr} {es : List Expr} {σ : L2.St} {H : Hp} {pos p1 : Pos} {vs : List V} {ad C dx : Addr} {fs : List (Str × V)} {m : Str} {sp : Sp} {k j : Nat}
/-- o.m(..), whatever it changes -/
theorem e_meth {Q : VK} {pl : Sem Bool} (me : C8.Met X.prog X.w X.K X.mg X.base k C m sp []) (hr : Room j X.A) (ho : XE X a σ H (.ref ad)) (hi : H ad = some (.ins C dx fs)) (hl : fs.lookup m = none) (ha : XA X (c :: es) σ H vs) (hs : ∀ H1, Ex H H1 → sp (.ref ad :: vs) H1 Q C8.E0) (hk : k ≤ j := by decide)
    (hst : starEach (c :: es) X.env = (false, eval c X.env) :: starEach es X.env := by rfl) (hpl : (backTo pos (starEach es X.env)).any (·.1) = false := by rfl)
    (ht : eval (.Call (.Attribute a m p1) (c :: es) [] pos) X.env = (do
      let ov ← eval a X.env
      standAt p1.atName
      let (f, first) ← holding [ov] (getMethod ov m pl)
      callWith pos f first (backTo pos (starEach (c :: es) X.env)) (backToKw pos (keywordEach [] X.env))) := by rfl) : eT X (.Call (.Attribute a m p1) (c :: es) [] pos) σ H Q :=
  we (C8.pe_mt (pl := pl) me hr hk peT paT hst hpl ht) (ho H (Ex.refl H) _ fun H2 e2 => ⟨ad, dx, fs, rfl, e2 _ _ hi, hl, ha H2 e2 _ fun H3 e3 => by
    rw [List.append_nil]
    exact hs H3 (e2.trans e3)⟩)
/-- new().m() -/
theorem xn_meth0N {pl : Sem Bool} {S R : Addr → Hp → Prop} (me : C8.Met X.prog X.w X.K X.mg X.base k C m sp []) (hr : Room j X.A) (ho : XN X a σ H S) (hS : ∀ p H1, Ex H H1 → H p = none → S p H1 → ∃ dx fs, H1 p = some (.ins C dx fs) ∧ fs.lookup m = none ∧ ∀ Q : VK, (∀ r H2, Ex H H2 → R r H2 → Q (.ref r) H2) → sp [.ref p] H1 Q C8.E0) (hk : k ≤ j := by decide)
    (ht : eval (.Call (.Attribute a m p1) [] [] pos) X.env = (do
      let ov ← eval a X.env
      standAt p1.atName
      let (f, first) ← holding [ov] (getMethod ov m pl)
      callWith pos f first (backTo pos (starEach [] X.env)) (backToKw pos (keywordEach [] X.env))) := by rfl) {Q : VK} (q : ∀ r H2, Ex H H2 → R r H2 → Q (.ref r) H2) : eT X (.Call (.Attribute a m p1) [] [] pos) σ H Q :=
  we (C8.pe_mt0 (pl := pl) me hr hk peT ht) (ho H (Ex.refl H) _ fun p H2 hp e2 s2 => by
    obtain ⟨dx, fs, h1, h2, h3⟩ := hS p H2 e2 hp s2
    exact ⟨p, dx, fs, rfl, h1, h2, h3 _ q⟩)
theorem xp_blt_n {S : Addr → Hp → Prop} {R : V → Hp → Prop} {x : Str} {bi : String} {r : List V → Hp → VK → Prop} (hc : CallR X (.builtin bi) r) (hm : X.mg x = none) (hv : bootBuiltins x = some (.builtin bi)) (ha : XN X e σ H S) (hr : ∀ p H2, Ex H H2 → S p H2 → ∀ Q : VK, (∀ v H3, Ex H2 H3 → R v H3 → Q v H3) → r [.ref p] H2 Q) (hg : Gl X x := by rfl) (hn : x ≠ "__name__" := by decide) (hdb : (x == ("__debug__" : Str)) = false := by decide)
    (he : starEach [e] X.env = (false, eval e X.env) :: starEach [] X.env := by rfl) (hpl : (backTo pos (starEach [] X.env)).any (·.1) = false := by rfl) : XP X (.Call (.Name x p1) [e] [] pos) σ H R :=
  xp (pe_callB hc hg hm hv paT hn hdb he hpl) fun H1 e1 Q q => wa (pa_cons peT pa_nil he) (ha H1 e1 _ fun p H2 hp e2 s2 => hr p H2 (e1.trans e2) s2 Q fun v H3 e3 r3 => q v H3 (e2.trans e3) r3)
end
end Lx
namespace Ls
open PySem PySem.Spec PyProof.Rows L2 Lx Ln
open Evl (Ex Ex.refl Ex.trans Ex.mut Ex.new Ev EvT EvL EvU EvA ex_l ex_t ex_rd sq_of st_of sz_of sz_lt fresh_back)
open Lsm (X5 O3 Y4 L10 Le Wr Lb Qn Cf)
section
variable {P : Program} {wd : World} {K : PySem.W.Frag} {mg : Str → Option Value} {base : Heap}
theorem wok_behind {wk : Wk} {f : Bool} : ∀ {rest : List Lb} {xp yp : Bool} {l : L10} {r : R3}, Wok wk xp yp l rest → behind f r rest = true → r = .x ∧ wk.mkX ∨ r = .y ∧ wk.mkY
  | [], _, _, _, _, _, h => nomatch h
  | lb :: rest, xp, yp, l, r, w, h => by
    unfold behind at h
    split at h
    · cases h
    · split at h
      · rename_i _ hm
        have hm := of_decide_eq_true hm
        cases lb with
        | markX =>
          cases r with
          | x => exact .inl ⟨rfl, w.2.1⟩
          | y => exact absurd hm (by cases f <;> decide)
          | z => exact absurd hm (by cases f <;> decide)
        | markY =>
          cases r with
          | y => exact .inr ⟨rfl, w.2.2.1⟩
          | x => exact absurd hm (by cases f <;> decide)
          | z => exact absurd hm (by cases f <;> decide)
        | _ => exact absurd (List.cons.inj hm).1 (by decide)
      · cases lb with
        | putX o => exact wok_behind w.2 h
        | putY => exact wok_behind w.2 h
        | putZ => exact wok_behind w.2 h
        | turn o => exact wok_behind w.2 h
        | markY => exact wok_behind w.2.2.2 h
        | markX => exact wok_behind w.2.2 h
        | strikeX => exact wok_behind w.2 h
        | look k => obtain ⟨_, l', _, w'⟩ := w; exact wok_behind w' h
        | do_ k => obtain ⟨_, l', _, w'⟩ := w; exact wok_behind w' h
        | stop k => obtain ⟨_, l', _, w'⟩ := w; exact wok_behind w' h
theorem held_at {f : Bool} {hs : List (Int × Le)} {l : L10} (h : HOk hs l) {q : Int × Le} (hq : q ∈ hs) : valV (heldD f hs) (Sum.inl q.1 : Key) = some (.str (kS f q.2)) := by
  rcases h with ⟨rfl, rfl⟩ | ⟨i, k0, hi, rfl, e⟩ | ⟨i, k0, j, l1, hi, rfl, e, e2⟩
  · cases hq
  · rw [List.mem_singleton.mp hq]
    simp [heldD, valV]
  · rcases List.mem_cons.mp hq with rfl | hq
    · simp [heldD, valV]
    · rw [List.mem_singleton.mp hq]
      rcases hi with rfl | rfl <;> simp [heldD, valV]
/-! ### Weaver.__init__ -/
def spVI (K : PySem.W.Frag) : Sp := fun vs H Q _ => ∃ x dx w pw H0, vs = [.ref x, .ref w, .ref pw] ∧ H0 x = none ∧ Ex H0 H ∧ H x = some (.ins (cV K) dx []) ∧ ∀ m h ch H', (∀ f, Wv K ⟨x, dx, m, h, ch, w, pw⟩ H0 f [] [] [] 3 H') → Q .non H'
theorem ok_vinit (T : Tf K mg) (N : NumAt K wd mg) : C8.Mak P wd K mg base 1 "Weaver" (cV K) (spVI K) [] := by
  refine mak_of (N := ["self", "watch", "way"]) T.g_V T.k_V T.m_V_init (by decide +kernel) (fun vs H Q E ⟨x, dx, w, pw, H0, e, _⟩ => by rw [e]; rfl) fun f0 cdv A outer s H vs Q E hr nd h => ?_
  obtain ⟨x, dx, w, pw, H0, rfl, x0, e0, hx, q⟩ := h
  obtain ⟨nm, es, n, hN, KD, knd, klen, kd⟩ := N.ex
  refine b_fldE (x_var 1) (x_var 0) hx T.cl_V T.nV_watch (by exact Nat.le_of_ble_eq_true rfl) fun H1 e1 => ?_
  have E1 := Ex.mut (p := x) (o := .ins (cV K) dx (putF "watch" (.ref w) [])) (e0.trans e1) x0
  refine b_fldE (x_var 2) (x_var 0) upd_same T.cl_V T.nV_way (by exact Nat.le_of_ble_eq_true rfl) fun H2 e2 => ?_
  have E2 := Ex.mut (p := x) (o := .ins (cV K) dx (putF "way" (.ref pw) (putF "watch" (.ref w) []))) (E1.trans e2) x0
  generalize hG2 : upd H2 x (.ins (cV K) dx (putF "way" (.ref pw) (putF "watch" (.ref w) []))) = G2 at E2 ⊢
  have x2 : G2 x = some (.ins (cV K) dx [("watch", .ref w), ("way", .ref pw)]) := by rw [← hG2]; exact upd_same
  refine b_fldN (xn_l (x_lst x_anil)) (x_var 0) x2 T.cl_V T.nV_made (by exact Nat.le_of_ble_eq_true rfl) (fun m H3 m0 e3 hm => ?_) fun p H1 H2 e h => e _ _ h
  have E3 := Ex.mut (p := x) (o := .ins (cV K) dx (putF "made" (.ref m) [("watch", .ref w), ("way", .ref pw)])) (E2.trans e3) x0
  have mx : m ≠ x := fun z => by rw [z, x2] at m0; cases m0
  have m3 : upd H3 x (.ins (cV K) dx (putF "made" (.ref m) [("watch", .ref w), ("way", .ref pw)])) m = some (.lst []) := by rw [upd_ne mx]; exact hm
  generalize hG3 : upd H3 x (.ins (cV K) dx (putF "made" (.ref m) [("watch", .ref w), ("way", .ref pw)])) = G3 at E3 m3 ⊢
  have x3 : G3 x = some (.ins (cV K) dx [("watch", .ref w), ("way", .ref pw), ("made", .ref m)]) := by rw [← hG3]; exact upd_same
  refine b_fldN xn_dK (x_var 0) x3 T.cl_V T.nV_held (by exact Nat.le_of_ble_eq_true rfl) (fun h H4 h0 e4 hh => ?_) fun p H1 H2 e h => e _ _ h
  have E4 := Ex.mut (p := x) (o := .ins (cV K) dx (putF "held" (.ref h) [("watch", .ref w), ("way", .ref pw), ("made", .ref m)])) (E3.trans e4) x0
  have hx' : h ≠ x := fun z => by rw [z, x3] at h0; cases h0
  have m4 : upd H4 x (.ins (cV K) dx (putF "held" (.ref h) [("watch", .ref w), ("way", .ref pw), ("made", .ref m)])) m = some (.lst []) := by rw [upd_ne mx]; exact e4 _ _ m3
  have h4 : upd H4 x (.ins (cV K) dx (putF "held" (.ref h) [("watch", .ref w), ("way", .ref pw), ("made", .ref m)])) h = some (.dK []) := by rw [upd_ne hx']; exact hh
  generalize hG4 : upd H4 x (.ins (cV K) dx (putF "held" (.ref h) [("watch", .ref w), ("way", .ref pw), ("made", .ref m)])) = G4 at E4 m4 h4 ⊢
  have x4 : G4 x = some (.ins (cV K) dx [("watch", .ref w), ("way", .ref pw), ("made", .ref m), ("held", .ref h)]) := by rw [← hG4]; exact upd_same
  refine b_fldN xn_dK (x_var 0) x4 T.cl_V T.nV_chains (by exact Nat.le_of_ble_eq_true rfl) (fun ch H5 c0 e5 hc => ?_) fun p H1 H2 e h => e _ _ h
  have E5 := Ex.mut (p := x) (o := .ins (cV K) dx (putF "chains" (.ref ch) [("watch", .ref w), ("way", .ref pw), ("made", .ref m), ("held", .ref h)])) (E4.trans e5) x0
  have cx : ch ≠ x := fun z => by rw [z, x4] at c0; cases c0
  have hc' : h ≠ ch := fun z => by rw [← z, h4] at c0; cases c0
  have m5 : upd H5 x (.ins (cV K) dx (putF "chains" (.ref ch) [("watch", .ref w), ("way", .ref pw), ("made", .ref m), ("held", .ref h)])) m = some (.lst []) := by rw [upd_ne mx]; exact e5 _ _ m4
  have h5 : upd H5 x (.ins (cV K) dx (putF "chains" (.ref ch) [("watch", .ref w), ("way", .ref pw), ("made", .ref m), ("held", .ref h)])) h = some (.dK []) := by rw [upd_ne hx']; exact e5 _ _ h4
  have c5 : upd H5 x (.ins (cV K) dx (putF "chains" (.ref ch) [("watch", .ref w), ("way", .ref pw), ("made", .ref m), ("held", .ref h)])) ch = some (.dK []) := by rw [upd_ne cx]; exact hc
  generalize hG5 : upd H5 x (.ins (cV K) dx (putF "chains" (.ref ch) [("watch", .ref w), ("way", .ref pw), ("made", .ref m), ("held", .ref h)])) = G5 at E5 m5 h5 c5 ⊢
  have x5 : G5 x = some (.ins (cV K) dx [("watch", .ref w), ("way", .ref pw), ("made", .ref m), ("held", .ref h), ("chains", .ref ch)]) := by rw [← hG5]; exact upd_same
  refine b_fldE (x_is (x_lenKd T.b_len (x_glob (v := .ref nm) hN rfl) KD knd (by omega)) (w := .int 3) (by rw [klen] <;> rfl)) (x_var 0) x5 T.cl_V T.nV_unused (by exact Nat.le_of_ble_eq_true rfl) fun H6 e6 => b_nil ?_
  refine q m h ch _ fun f => ⟨Ex.mut (E5.trans e6) x0, x0, ?_, ?_, ?_, upd_same, ?_, ?_, ?_, hc', fun q hq => nomatch hq⟩
  · exact fresh_back E2 m0
  · exact fresh_back E3 h0
  · exact fresh_back E4 c0
  · show upd H6 x _ m = _
    rw [upd_ne mx]
    exact e6 _ _ m5
  · show upd H6 x _ h = _
    rw [upd_ne hx']
    exact e6 _ _ h5
  · show upd H6 x _ ch = _
    rw [upd_ne cx]
    exact e6 _ _ c5
theorem m_weaver {H : Hp} {w pw : Addr} : PM (cV K) (spVI K) [.ref w, .ref pw] H (fun p H2 => ∃ a : WvA, a.v = p ∧ a.w = w ∧ a.pw = pw ∧ ∀ f, Wv K a H f [] [] [] 3 H2) := fun H1 e x dx hx hd n Q q =>
  ⟨x, dx, w, pw, H1, rfl, hx, fun u o hu => by
    have n1 : u ≠ x := fun z => by rw [z, hx] at hu; cases hu
    have n2 : u ≠ dx := fun z => by rw [z, hd] at hu; cases hu
    rw [upd_ne n1, upd_ne n2]
    exact hu, upd_same, fun m h ch H' hW => q H' (hW true).ex ⟨_, rfl, rfl, rfl, fun f => let z := hW f; ⟨e.trans z.ex, fresh_back e z.v0, fresh_back e z.m0, fresh_back e z.h0, fresh_back e z.c0, z.hv, z.hm, z.hh, z.hc, z.ne, z.ca⟩⟩⟩
end
end Ls
/-! LsV18 -/
set_option Elab.async false
set_option linter.all false
set_option maxRecDepth 100000
namespace Ls
open PySem PySem.Spec PyProof.Rows L2 Lx Ln
open Evl (Ex Ex.refl Ex.trans Ex.mut Ex.new Ev EvT EvL EvU EvA ex_l ex_t ex_rd sq_of st_of sz_of sz_lt fresh_back)
open Lsm (X5 O3 Y4 L10 Le Wr Lb Qn Cf)
section
variable {P : Program} {wd : World} {K : PySem.W.Frag} {mg : Str → Option Value} {base : Heap}
inductive Kd where | put | turn | mark | strike | look | do_ | stop
def nmS : Kd → Str | .put => "put" | .turn => "turn" | .mark => "mark" | .strike => "strike" | .look => "look" | .do_ => "do" | .stop => "stop"
def hdN : Lb → Kd | .putX _ => .put | .putY => .put | .putZ => .put | .turn _ => .turn | .markX => .mark | .markY => .mark | .strikeX => .strike | .look _ => .look | .do_ _ => .do_ | .stop _ => .stop
def Kd.is : Kd → Kd → Bool | .put, .put => true | .turn, .turn => true | .mark, .mark => true | .strike, .strike => true | .look, .look => true | .do_, .do_ => true | .stop, .stop => true | _, _ => false
theorem kd_put (c : Kd) : decide (nmS c = "put") = c.is .put := by cases c <;> decide
theorem kd_turn (c : Kd) : decide (nmS c = "turn") = c.is .turn := by cases c <;> decide
theorem kd_mark (c : Kd) : decide (nmS c = "mark") = c.is .mark := by cases c <;> decide
theorem kd_strike (c : Kd) : decide (nmS c = "strike") = c.is .strike := by cases c <;> decide
theorem kd_look (c : Kd) : decide (nmS c = "look") = c.is .look := by cases c <;> decide
theorem lb_at0 (f : Bool) (lb : Lb) : atI ((lbT f lb).map V.str) 0 = some (.str (nmS (hdN lb))) := by cases lb <;> rfl
theorem t_lock {K : PySem.W.Frag} {H : Hp} {d a : Addr} {kvs : List (Key × V)} {od : Obj} {xs : List V} (hd : H d = some (.dK kvs)) (h : SqT K H a xs) : SqT K (upd H d (.frz od (.dK kvs))) a xs := by
  rcases h with (h | ⟨o, h⟩) | h
  · exact .inl (.inl (by rw [upd_ne (fun z => by subst z; rw [hd] at h; cases h)]; exact h))
  · exact .inl (.inr ⟨o, by rw [upd_ne (fun z => by subst z; rw [hd] at h; cases h)]; exact h⟩)
  · exact .inr h
def WvI (K : PySem.W.Frag) (a : WvA) (H0 : Hp) (f : Bool) (wk : Wk) (path : List Lb) (i : Nat) (σ' : L2.St) (H' : Hp) : Prop := ∃ mv hs cr u xp yp l x1 x2 x3 x4, σ' = [some (.ref a.v), x1, x2, x3, x4, none] ∧ Wv K a H0 f mv hs cr u H' ∧ Wok wk xp yp l (path.drop i) ∧ HOk hs l ∧ (xp = true → ∃ q ∈ cr, q.1 = R3.x) ∧ (yp = true → ∃ q ∈ cr, q.1 = R3.y) ∧ mv.length ≤ 41 * i ∧ cr.length ≤ i
def spWvn (K : PySem.W.Frag) : Sp := fun vs H Q _ => ∃ (a : WvA) (H0 : Hp) (wk : Wk) (f : Bool) (path : List Lb), vs = [.ref a.v] ∧ Wv K a H0 f [] [] [] 3 H ∧ wk.At K H0 a.w ∧ WayL K f H0 a.pw path ∧ Wok wk false false .e path ∧ path.length ≤ 2100 ∧ ∀ r H', Ex H0 H' → Q (.ref r) H'
set_option maxHeartbeats 4000000 in
theorem ok_woven (T : Tf K mg) (I : TfI K) (N : NumAt K wd mg) : C8.Met P wd K mg base 5 (cV K) "woven" (spWvn K) [] := by
  refine met_of (N := ["self", "at", "label", "owner", "hand", "one"]) T.m_V_woven (by decide +kernel) (fun vs H Q E ⟨a, H0, wk, f, path, e, _⟩ => by rw [e]; rfl) fun f0 cdv A outer s H vs Q E hr nd h => ?_
  obtain ⟨a, H0, wk, f, path, rfl, w0, hw, hway, hok, hlen, q⟩ := h
  obtain ⟨nm, es, n, hN, KD, knd, klen, kd⟩ := N.ex
  obtain ⟨pvs, hpw0, hpp0⟩ := id hway
  have lp := paired_len hpp0
  refine b_forE T.b_enumerate (x_fld (x_var 0) w0.hv T.cl_V T.nV_way rfl) (ex_l w0.ex hpw0) (pg_tup rfl (pgs_cons (pg_name (i := 1) nd rfl (.inl rfl)) (pgs_cons (pg_name (i := 2) nd rfl (.inr rfl)) pgs_nil))) (WvI K a H0 f wk path) (fun H1 e1 => ⟨[], [], [], 3, false, false, .e, none, none, none, none, rfl, w0.mono e1, hok, .inl ⟨rfl, rfl⟩, (fun h => nomatch h), (fun h => nomatch h), Nat.zero_le _, Nat.zero_le _⟩) (fun i σ' H' ⟨mv, hs, cr, u, xp, yp, l, x1, x2, x3, x4, _, w, _⟩ => ex_l w.ex hpw0) ?_ ?_
  · rintro i x σ' H' Tt hx ⟨mv, hs, cr, u, xp, yp, l, x1, x2, x3, x4, rfl, w, wok, hk, hxp, hyp, lmv, lcr⟩ hT
    obtain ⟨lb, hlb, pl, rfl, hsq0⟩ := prd_at hpp0 hx
    have hlt : i < path.length := (List.getElem?_eq_some_iff.mp hlb).1
    have dr : path.drop i = lb :: path.drop (i + 1) := by
      obtain ⟨hj, e⟩ := List.getElem?_eq_some_iff.mp hlb
      rw [List.drop_eq_getElem_cons hj, e]
    rw [dr] at wok
    refine ⟨Tt, _, rfl, st_of upd_same, rfl, _, _, rfl, _, _, rfl, rfl, ?_⟩
    have w1 := w.mono (Ex.new (o := .tup [.int (i : Nat), .ref pl]) hT)
    generalize upd H' Tt (.tup [.int (i : Nat), .ref pl]) = H1 at w1 ⊢
    have sq : ∀ {H2}, Ex H0 H2 → SqT K H2 pl ((lbT f lb).map V.str) := fun e => ex_t e hsq0
    refine b_ifJ (WvI K a H0 f wk path (i + 1)) (t_is (t_eqS (x_ixT (x_var 2) x_int (sq w1.ex) (lb_at0 f lb)) x_str) (kd_put _)) (fun hb H2 e2 => ?_) (fun hb H2 e2 => ?_) fun σ' H' j => b_nil j
    · have w2 := w1.mono e2
      obtain ⟨r, o, et, hc, xp', yp', wok', fx, fy⟩ : ∃ r o, lbT f lb = [("put" : Str), rS r, oS o] ∧ (wk.isCol = true ∨ r = .x ∧ o = .no) ∧ ∃ xp' yp', Wok wk xp' yp' l (path.drop (i + 1)) ∧ (xp' = true → xp = true ∨ r = .x) ∧ (yp' = true → yp = true ∨ r = .y) := by
        cases lb with
        | putX o => exact ⟨.x, o, rfl, wok.1.imp id fun h => ⟨rfl, h⟩, true, yp, wok.2, fun _ => .inr rfl, .inl⟩
        | putY => exact ⟨.y, .no, rfl, .inl wok.1, xp, true, wok.2, .inl, fun _ => .inr rfl⟩
        | putZ => exact ⟨.z, .no, rfl, .inl wok.1, xp, yp, wok.2, .inl, .inl⟩
        | _ => cases hb
      refine b_exprQ (e_meth (ok_put_row T I N) hr (x_var 0) w2.hv rfl (x_acons (x_var 1) x_anil) fun H3 e3 => ⟨a, H0, wk, f, path, i, mv, hs, cr, u, lb, r, o, rfl, w2.mono e3, hw, hway, hlb, et, hc, fun hbh => wok_behind wok' hbh, by omega, by omega, fun H4 mv' cr' u' w4 l1 l2 c1 c2 => b_nil ⟨mv', hs, cr', u', xp', yp', l, _, _, _, _, rfl, w4, wok', hk, fun h => ?_, fun h => ?_, by omega, by omega⟩⟩)
      · rcases fx h with h | h
        · obtain ⟨q1, hq1, e1⟩ := hxp h
          obtain ⟨q2, hq2, e2⟩ := c1 q1 hq1
          exact ⟨q2, hq2, e2.trans e1⟩
        · rw [← h]; exact c2
      · rcases fy h with h | h
        · obtain ⟨q1, hq1, e1⟩ := hyp h
          obtain ⟨q2, hq2, e2⟩ := c1 q1 hq1
          exact ⟨q2, hq2, e2.trans e1⟩
        · rw [← h]; exact c2
    have w2 := w1.mono e2
    refine b_ifJ (WvI K a H0 f wk path (i + 1)) (t_is (t_eqS (x_ixT (x_var 2) x_int (sq w2.ex) (lb_at0 f lb)) x_str) (kd_turn _)) (fun hb2 H3 e3 => ?_) (fun hb2 H3 e3 => ?_) fun σ' H' j => b_nil j
    · have w3 := w2.mono e3
      obtain ⟨o, rfl⟩ : ∃ o, lb = .turn o := by cases lb <;> first | exact ⟨_, rfl⟩ | cases hb2
      cases wk with
      | k W => exact absurd wok.1 Bool.false_ne_true
      | c W x =>
        have hw3 : CwAt K H3 a.w W x := CwAt.mono hw w3.ex
        have at2 : atI ((lbT f (.turn o)).map V.str) 2 = some (.str (oS o)) := by rfl
        refine b_set 3 (x_ifE (v := match o with | .no => .non | .y => .int (rNum .y) | .z => .int (rNum .z)) (t_is (t_eqS (x_ixT (x_var 2) x_int (sq w3.ex) at2) x_str) (o_no o)) (fun h => ?_) fun h => ?_) fun H4 e4 => ?_
        · cases o <;> first | exact x_non | cases h
        · cases o with
          | no => cases h
          | y => exact x_kdct (x_glob (v := .ref nm) hN rfl) (x_ixT (x_var 2) x_int (sq w3.ex) at2) (kd .y)
          | z => exact x_kdct (x_glob (v := .ref nm) hN rfl) (x_ixT (x_var 2) x_int (sq w3.ex) at2) (kd .z)
        have w4 := w3.mono e4
        have hw4 : CwAt K H4 a.w W x := CwAt.mono hw w4.ex
        exact b_appP (S := fun _ _ => True) w4.hm (x_fld (x_var 0) w4.hv T.cl_V T.nV_made rfl) (xp_imp (xp_n (xn_u (x_tup (x_acons x_str (x_acons (x_fld (x_fld (x_var 0) w4.hv T.cl_V T.nV_watch rfl) hw4.wa.hw T.cl_W T.nW_home hw4.wa.f2) (x_acons (x_kdct (x_glob (v := .ref nm) hN rfl) x_str (kd .x)) (x_acons (x_fld (x_fld (x_fld (x_var 0) w4.hv T.cl_V T.nV_watch rfl) hw4.wa.hw T.cl_W T.nW_by hw4.g1) hw4.hc T.cl_C T.nC_word (colF_word _)) (x_acons (x_var 3) x_anil)))))))) fun _ _ _ _ => trivial) (by omega) fun v H5 e5 _ => b_nil ⟨mv ++ [v], hs, cr, u, xp, yp, l, _, _, _, _, rfl, (w4.mono e5).upM _, wok.2, hk, hxp, hyp, by rw [List.length_append, List.length_singleton]; omega, by omega⟩
    have w3 := w2.mono e3
    refine b_ifJ (WvI K a H0 f wk path (i + 1)) (t_is (t_eqS (x_ixT (x_var 2) x_int (sq w3.ex) (lb_at0 f lb)) x_str) (kd_mark _)) (fun hb3 H4 e4 => ?_) (fun hb3 H4 e4 => ?_) fun σ' H' j => b_nil j
    · have w4 := w3.mono e4
      obtain ⟨r, et, hc, hcr, wok'⟩ : ∃ r, lbT f lb = [("mark" : Str), rS r] ∧ (wk.isCol = true ∨ r = .x) ∧ (∃ q ∈ cr, q.1 = r) ∧ Wok wk xp yp l (path.drop (i + 1)) := by
        cases lb with
        | markX => exact ⟨.x, rfl, .inr rfl, hxp wok.1, wok.2.2⟩
        | markY => exact ⟨.y, rfl, .inl wok.1, hyp wok.2.1, wok.2.2.2⟩
        | _ => cases hb3
      have at1 : atI ((lbT f lb).map V.str) 1 = some (.str (rS r)) := by rw [et]; rfl
      exact b_exprQ (e_meth (ok_mark_row T N) hr (x_var 0) w4.hv rfl (x_acons (x_ixT (x_var 2) x_int (sq w4.ex) at1) x_anil) fun H5 e5 => ⟨a, H0, wk, f, mv, hs, cr, u, r, rfl, w4.mono e5, hw, hc, hcr, by omega, fun H6 mv' w6 l6 => b_nil ⟨mv', hs, cr, u, xp, yp, l, _, _, _, _, rfl, w6, wok', hk, hxp, hyp, by omega, by omega⟩⟩)
    have w4 := w3.mono e4
    refine b_ifJ (WvI K a H0 f wk path (i + 1)) (t_is (t_eqS (x_ixT (x_var 2) x_int (sq w4.ex) (lb_at0 f lb)) x_str) (kd_strike _)) (fun hb4 H5 e5 => ?_) (fun hb4 H5 e5 => ?_) fun σ' H' j => b_nil j
    · have w5 := w4.mono e5
      have el : lb = .strikeX := by cases lb <;> first | rfl | cases hb4
      subst el
      exact b_appP (S := fun _ _ => True) w5.hm (x_fld (x_var 0) w5.hv T.cl_V T.nV_made rfl) (xp_imp (xp_n (xn_u (x_tup (x_acons x_str (x_acons (x_whome T (x_fld (x_var 0) w5.hv T.cl_V T.nV_watch rfl) (hw.mono w5.ex)) (x_acons (x_kdct (x_glob (v := .ref nm) hN rfl) x_str (kd .x)) x_anil)))))) fun _ _ _ _ => trivial) (by omega) fun v H6 e6 _ => b_nil ⟨mv ++ [v], hs, cr, u, xp, yp, l, _, _, _, _, rfl, (w5.mono e6).upM _, wok.2, hk, hxp, hyp, by rw [List.length_append, List.length_singleton]; omega, by omega⟩
    have w5 := w4.mono e5
    refine b_ifJ (WvI K a H0 f wk path (i + 1)) (t_is (t_eqS (x_ixT (x_var 2) x_int (sq w5.ex) (lb_at0 f lb)) x_str) (kd_look _)) (fun hb5 H6 e6 => ?_) (fun hb5 H6 e6 => ?_) fun σ' H' j => b_nil j
    · have w6 := w5.mono e6
      obtain ⟨k, rfl⟩ : ∃ k, lb = .look k := by cases lb <;> first | exact ⟨_, rfl⟩ | cases hb5
      obtain ⟨hc, l', hadd, wok'⟩ := wok
      have at1 : atI ((lbT f (.look k)).map V.str) 1 = some (.str (kS f k)) := by rfl
      exact b_exprQ (e_meth (ok_look_for T N) hr (x_var 0) w6.hv rfl (x_acons (x_ixT (x_var 2) x_int (sq w6.ex) at1) x_anil) fun H7 e7 => ⟨a, H0, wk, f, mv, hs, cr, u, k, l, l', rfl, w6.mono e7, hw, hc, hk, hadd, by omega, fun H8 mv' hs' w8 hk' l8 => b_nil ⟨mv', hs', cr, u, xp, yp, l', _, _, _, _, rfl, w8, wok', hk', hxp, hyp, by omega, by omega⟩⟩)
    have w6 := w5.mono e6
    obtain ⟨k, l', at1, hrem, wok'⟩ : ∃ k l', atI ((lbT f lb).map V.str) 1 = some (.str (kS f k)) ∧ l.rem k = some l' ∧ Wok wk xp yp l' (path.drop (i + 1)) := by
      cases lb with
      | do_ k => obtain ⟨_, l', h1, h2⟩ := wok; exact ⟨k, l', rfl, h1, h2⟩
      | stop k => obtain ⟨_, l', h1, h2⟩ := wok; exact ⟨k, l', rfl, h1, h2⟩
      | putX o => cases hb
      | putY => cases hb
      | putZ => cases hb
      | turn o => cases hb2
      | markX => cases hb3
      | markY => cases hb3
      | strikeX => cases hb4
      | look k => cases hb5
    obtain ⟨⟨q0, hq0, eq0⟩, hm⟩ := held_rem hk hrem
    have hns : 0 < ((hs.filter fun q => decide (q.2 = k)).map (·.1)).length := by
      rw [List.length_map]
      exact List.length_pos_of_mem (List.mem_filter.mpr ⟨hq0, decide_eq_true eq0⟩)
    refine b_setP 4 (R := fun v _ => ∃ m ∈ (hs.filter fun q => decide (q.2 = k)).map (·.1), v = V.int m) (xp_blt_n (cr_min (by rfl)) T.b_min (show bootBuiltins "min" = some (.builtin "min") by decide +kernel) (xn_l (xl_lcL (rp := fun q : Int × Le => V.int q.1) (g := fun q : Int × Le => V.int q.1) (as := hs) (fun q => decide (q.2 = k)) 5 w6.hh trivial (fun od => src_is (src_k (x_fld (x_var 0) (by rw [upd_ne (Ne.symm w6.nes.2.2.2.1)]; exact w6.hv) T.cl_V T.nV_held rfl) upd_same) (by unfold heldD; rw [List.map_map] <;> rfl)) (by have := hk.len; omega) fun od q' H7 hq' e7 sh H0' C cl fp => ⟨ts_one (t_is (t_eqS (x_dget (y := V.int q'.1) hr (x_fld (x_var 0) (e7 _ _ (by rw [upd_ne (Ne.symm w6.nes.2.2.2.1)]; exact w6.hv)) T.cl_V T.nV_held rfl) (x_var 5) ?_) (x_ixT (x_var 2) x_int ?_ at1)) (decide_eq_decide.mpr ⟨kS_inj, fun h => by rw [h]⟩)), fun _ => x_ty call_int1 T.b_int (show bootBuiltins "int" = some (.type "int") by decide +kernel) (x_acons (x_var 5) x_anil) fun H8 e8 Q q => .inl ⟨_, rfl, q H8 (Ex.refl _)⟩⟩)) fun p H7 e7 h7 Q q => ⟨p, _, rfl, sq_of (h7.trans ?_), hns, fun m hm _ => q _ H7 (Ex.refl _) ⟨m, hm, rfl⟩⟩) fun v H7 e7 ⟨m, hmm, ev⟩ => ?_
    · have g := get_k (k := Sum.inl q'.1) (ex_rd e7 (.inr ⟨od, upd_same⟩) : Rd H7 a.h (.dK (heldD f hs)))
      rw [held_at hk hq'] at g
      exact g
    · exact ex_t e7 (t_lock w6.hh (sq w6.ex))
    · rw [List.map_map] <;> rfl
    subst ev
    have w7 := w6.mono e7
    have him : (valV (heldD f hs) (Sum.inl m : Key)).isSome = true := by
      obtain ⟨q1, hq1, e1⟩ := List.mem_map.mp hmm
      rw [← e1, held_at hk (List.mem_filter.mp hq1).1] <;> rfl
    refine b_ddel (k := Sum.inl m) (x_fld (x_var 0) w7.hv T.cl_V T.nV_held rfl) (x_var 4) w7.hh him fun H8 e8 => ?_
    rw [held_drop]
    have w8 := (w7.mono e8).upH (hs.filter fun q => decide (q.1 ≠ m))
    generalize upd H8 a.h (.dK (heldD f (hs.filter fun q => decide (q.1 ≠ m)))) = G8 at w8 ⊢
    exact b_appP (S := fun _ _ => True) w8.hm (x_fld (x_var 0) w8.hv T.cl_V T.nV_made rfl) (xp_imp (xp_n (xn_u (x_tup (x_acons (x_ixT (x_var 2) x_int (sq w8.ex) (lb_at0 f lb)) (x_acons (x_var 4) x_anil))))) fun _ _ _ _ => trivial) (by omega) fun v H9 e9 _ => b_nil ⟨mv ++ [v], _, cr, u, xp, yp, l', _, _, _, _, rfl, (w8.mono e9).upM _, wok', hm m hmm, hxp, hyp, by rw [List.length_append, List.length_singleton]; omega, by omega⟩
  · rintro σ' H' ⟨mv, hs, cr, u, xp, yp, l, x1, x2, x3, x4, rfl, w, wok, hk, hxp, hyp, lmv, lcr⟩
    exact b_ret (x_fld (x_var 0) w.hv T.cl_V T.nV_made rfl) fun H1 e1 => q a.m H1 (w.mono e1).ex
end
end Ls
/-! LsM1 -/
set_option Elab.async false
set_option linter.all false
set_option maxRecDepth 100000
namespace Ls
open PySem PySem.Spec PyProof.Rows L2 Lx Ln
open Evl (Ex Ex.refl Ex.trans Ex.mut Ex.new Ev EvT EvL EvU EvA ex_l ex_t ex_rd sq_of st_of sz_of sz_lt fresh_back)
open Lsm (X5 O3 Y4 L10 Le Wr Lb Qn Cf)
/-! ### the conditions, over a book -/
def condB (mk : Str → Bool) (B : Bk) : Qu → Bool
  | .kind k => mk k && (!B.has "again" k && (!B.chk "lone" && !B.chk "fresh"))
  | .col n c => Lsm.cond ⟨B.chk "fresh", B.chk "lone", B.has "put" c.word, B.has "turn" c.word, B.has "keep" c.word, B.has "hold" c.word, B.has "again" c.word, B.has "bare" c.goal, B.has "calm" c.goal, B.has "again" c.goal, false, false, false, mk c.goal, false, c.fall⟩ (mk c.home) n
theorem condB_congr {mk mk' : Str → Bool} (h : ∀ k, mk k = mk' k) (B : Bk) (q : Qu) : condB mk B q = condB mk' B q := by
  have : mk = mk' := funext h
  rw [this]
theorem cond_cfg (W : Wd) (x : Wx) (n : Qn) : Lsm.cond (cfg W x) (W.mks W.home) n = Lsm.cond ⟨W.B.chk "fresh", W.B.chk "lone", W.B.has "put" x.c.word, W.B.has "turn" x.c.word, W.B.has "keep" x.c.word, W.B.has "hold" x.c.word, W.B.has "again" x.c.word, W.B.has "bare" x.c.goal, W.B.has "calm" x.c.goal, W.B.has "again" x.c.goal, false, false, false, W.mks x.c.goal, false, x.c.fall⟩ (W.mks W.home) n := by
  cases n <;> rfl
theorem reach_nm {c : Cf} (hf : c.fall = false) {s : Lsm.S} (h : Lsm.Reach c s) : s.x.isMarked = false := by
  induction h with
  | start => rfl
  | @step s t w lb _ e ih =>
    cases lb with
    | do_ k =>
      unfold Lsm.out at e
      simp only at e
      split at e
      · cases e
      · rename_i l2 _
        injection e with e
        split at e
        · injection e with e _
          rw [← e]
          exact ih
        · have e1 : t = (Lsm.did c.fall k { s with l := l2 }).1 := by rw [e]
          rw [e1, hf]
          unfold Lsm.did
          cases k with
          | a =>
            simp only [Bool.false_eq_true, if_false]
            split <;> exact ih
          | x =>
            simp only
            split
            · exact ih
            · rfl
          | y => exact ih
    | stop k =>
      unfold Lsm.out at e
      simp only at e
      split at e
      · cases e
      · injection e with e
        injection e with e _
        rw [← e]
        exact ih
    | look k =>
      unfold Lsm.out at e
      simp only at e
      split at e
      · cases e
      · split at e
        · injection e with e
          injection e with e _
          rw [← e]
          exact ih
        · cases e
    | _ =>
      unfold Lsm.out at e
      simp only at e
      split at e
      · injection e with e
        injection e with e _
        rw [← e]
        first | exact ih | rfl
      · cases e
theorem wr_is {c : Cf} {s t : Lsm.S} {lb : Lb} {w : Wr} (hm : c.fall = false → s.x.isMarked = false) (e : Lsm.out c lb s = some (t, w)) (hw : (!w.isNo) = true) : Wr.is c.fall w = true := by
  have no : ∀ {a b : Lsm.S}, some (a, Wr.no) = some (b, w) → False := fun h => by
    injection h with h
    injection h with _ h
    subst h
    cases hw
  cases lb with
  | do_ k =>
    unfold Lsm.out at e
    simp only at e
    split at e
    · cases e
    · rename_i l2 _
      split at e
      · exact (no e).elim
      · injection e with e
        have e1 : w = (Lsm.did c.fall k { s with l := l2 }).2 := by rw [e]
        rw [e1] at hw ⊢
        revert hw hm
        unfold Lsm.did
        cases hf : c.fall <;> cases k <;> simp only [Bool.false_eq_true, if_false, if_true]
        · intro _ hw
          split at hw
          · cases hw
          · split
            · rename_i h1 h2
              exact absurd h2 h1
            · simp only at hw ⊢
              split at hw
              · rename_i h3
                rw [if_pos h3]
                rfl
              · cases hw
        · intro hm hw
          have hm := hm trivial
          rw [hm] at hw
          split at hw
          · cases hw
          · simp only [Bool.false_and, Bool.false_eq_true, if_false] at hw
            cases hw
        · intro _ hw
          cases hw
        · intro _ hw
          cases hw
        · intro _ hw
          split at hw
          · cases hw
          · split
            · rename_i h1 h2
              exact absurd h2 h1
            · simp only at hw ⊢
              split at hw
              · rename_i h3
                rw [if_pos h3]
                rfl
              · cases hw
        · intro _ hw
          cases hw
  | stop k =>
    unfold Lsm.out at e
    simp only at e
    split at e
    · cases e
    · exact (no e).elim
  | look k =>
    unfold Lsm.out at e
    simp only at e
    split at e
    · cases e
    · split at e
      · exact (no e).elim
      · cases e
  | _ =>
    unfold Lsm.out at e
    simp only at e
    split at e
    · exact (no e).elim
    · cases e
section
variable {K : PySem.W.Frag} {W : Wd} {x : Wx} {n : Qn} {H : Hp} {w : Addr}
theorem fit_of (h : CwAt K H w W x) (ho : x.oc.isSome = true ↔ ∃ d ∈ W.B.cols, othC W x.c d = true) : Lsm.Fit (cfg W x) (W.mks W.home) := by
  have mk : ∀ k, W.mks k = true ↔ Mkb W.B k := fun k => by
    unfold Wd.mks
    rw [decide_eq_true_iff]
    exact h.wa.mkb k
  have opn : ∀ k, W.B.isOpen k = true ↔ (k, true) ∈ W.B.kinds := fun k => by
    unfold Bk.isOpen
    rw [decide_eq_true_iff]
  refine ⟨fun e => ?_, fun e => ?_, fun e1 e2 => ?_, fun e => ?_, fun e => ?_⟩
  · have e : W.B.isOpen x.c.home = true := e
    rw [mk, h.eh]
    exact .op ((opn _).mp e)
  · have e : x.oc.isSome = true := e
    obtain ⟨c, hc⟩ := Option.isSome_iff_exists.mp e
    have := h.ho
    rw [hc] at this
    obtain ⟨_, h1, h2, h3, _, h5⟩ := this
    rw [mk, h.eh, ← h3]
    exact .fl h1 h2 h5
  · have e1 : x.c.fall = true := e1
    have e2 : W.mks x.c.goal = true := e2
    rw [mk, h.eh]
    exact .fl h.mc e1 ((mk _).mp e2)
  · have e : W.B.isOpen x.c.goal = true := e
    exact (mk _).mpr (.op ((opn _).mp e))
  · rw [mk] at e
    show W.B.isOpen x.c.home = true ∨ x.oc.isSome = true ∨ x.c.fall = true ∧ W.mks x.c.goal = true
    generalize hh : W.home = k at e
    cases e with
    | op h1 => left; rw [opn, ← h.eh, hh]; exact h1
    | @fl c hc f m =>
      right
      by_cases ew : c.word = x.c.word
      · right
        have ec : c = x.c := by
          obtain ⟨i, hi⟩ := List.mem_iff_getElem?.mp hc
          obtain ⟨j, hj⟩ := List.mem_iff_getElem?.mp h.mc
          have nd := (List.nodup_append.mp h.wa.O.nd).2.1
          have hi' : (W.B.cols.map (·.word))[i]? = some c.word := by rw [List.getElem?_map, hi] <;> rfl
          have hj' : (W.B.cols.map (·.word))[j]? = some c.word := by rw [List.getElem?_map, hj, ew] <;> rfl
          have := nd_ix nd hi' hj'
          subst this
          rw [hi] at hj
          injection hj
        subst ec
        exact ⟨f, (mk _).mpr m⟩
      · left
        rw [ho]
        refine ⟨c, hc, ?_⟩
        unfold othC
        simp only [Bool.and_eq_true, decide_eq_true_eq, Bool.not_eq_true', decide_eq_false_iff_not]
        exact ⟨⟨hh.symm, f, ew⟩, (mk _).mpr m⟩
theorem Mc.ind (M : Mc) {I : M.St → Prop} (h0 : I M.s0) (hst : ∀ s t r l, I s → M.out l s = some (t, r) → I t) {s : M.St} (h : M.Reach s) : I s := by
  induction h with
  | start => exact h0
  | @step s t r l _ _ e ih => exact hst s t r l ih e
theorem reach_to {s : Lsm.S} (h : (colM K W x n).Reach s) : Lsm.Reach (cfg W x) s :=
  Mc.ind (colM K W x n) (I := fun s => Lsm.Reach (cfg W x) s) .start (fun s t r l ih e => .step (w := r) l ih e) h
theorem reach_from {s : Lsm.S} (h : Lsm.Reach (cfg W x) s) : (colM K W x n).Reach s := by
  induction h with
  | start => exact .start
  | @step s t r l _ e ih => exact .step (r := r) ih (Lsm.all_lb l) e
theorem way_col (h : CwAt K H w W x) (ho : x.oc.isSome = true ↔ ∃ d ∈ W.B.cols, othC W x.c d = true) {ls : List Lb} (hw : (colM K W x n).Way ls) : condB W.mks W.B (.col n x.c) = true := by
  obtain ⟨pre, l, s, t, r, _, _, e, hb, hr, _, _⟩ := hw
  have := (Lsm.comes_iff (fit_of h ho) n).mp ⟨s, l, t, r, reach_to hr, e, by
    have hb : badW x.c.fall n t r = true := hb
    cases n with
    | loose => exact hb
    | half => exact hb
    | wrong =>
      show (!r.isNo) = true
      have hb : Wr.is x.c.fall r = true := hb
      cases r with
      | no => cases hb
      | spoilt => rfl
      | unjust => rfl⟩
  rw [cond_cfg, h.eh] at this
  exact this
theorem safe_col (h : CwAt K H w W x) (ho : x.oc.isSome = true ↔ ∃ d ∈ W.B.cols, othC W x.c d = true) (hs : (colM K W x n).Safe) : condB W.mks W.B (.col n x.c) = false := by
  cases z : condB W.mks W.B (.col n x.c) with
  | false => rfl
  | true =>
    have z : Lsm.cond ⟨W.B.chk "fresh", W.B.chk "lone", W.B.has "put" x.c.word, W.B.has "turn" x.c.word, W.B.has "keep" x.c.word, W.B.has "hold" x.c.word, W.B.has "again" x.c.word, W.B.has "bare" x.c.goal, W.B.has "calm" x.c.goal, W.B.has "again" x.c.goal, false, false, false, W.mks x.c.goal, false, x.c.fall⟩ (W.mks x.c.home) n = true := z
    rw [← h.eh, ← cond_cfg] at z
    obtain ⟨s, l, t, r, hr, e, hb⟩ := (Lsm.comes_iff (fit_of h ho) n).mpr z
    have := hs s (reach_from hr) l (Lsm.all_lb l) t r e
    have hb2 : badW x.c.fall n t r = true := by
      cases n with
      | loose => exact hb
      | half => exact hb
      | wrong => exact wr_is (c := cfg W x) (fun hf => reach_nm hf hr) e hb
    rw [show badW x.c.fall n t r = false from this] at hb2
    cases hb2
/-! ### a kind's watch -/
theorem kind_run {c : CfK} (h1 : c.mkh = true) (h2 : c.ag = false) (h3 : c.lone = false) (h4 : c.fresh = false) : (outK c .put ⟨.new, .e⟩ = some (⟨.plain, .e⟩, false)) ∧ (outK c .mark ⟨.plain, .e⟩ = some (⟨.marked, .e⟩, false)) ∧ (outK c .look ⟨.marked, .e⟩ = some (⟨.marked, .x⟩, false)) ∧ (outK c .look ⟨.marked, .x⟩ = some (⟨.marked, .xx⟩, false)) ∧ (outK c .do_ ⟨.marked, .xx⟩ = some (⟨.gone, .x⟩, false)) ∧ (outK c .put ⟨.gone, .x⟩ = some (⟨.plain, .x⟩, false)) ∧ (outK c .do_ ⟨.plain, .x⟩ = some (⟨.gone, .e⟩, true)) := by
  obtain ⟨fresh, lone, mkh, op, ag⟩ := c
  simp only at h1 h2 h3 h4
  subst h1 h2 h3 h4
  refine ⟨rfl, rfl, rfl, rfl, rfl, rfl, rfl⟩
/-- what holds of all states if the conditions don't -/
def InvK (c : CfK) (s : KS) : Bool := (c.mkh || (!s.y.isMarked && !s.y.isGone && s.l.isE)) && (!(c.fresh || c.lone) || ((!(s.y.isPlain || s.y.isNew) || s.l.isE) && (!c.lone || (match s.l with | .xx => false | .x => s.y.isMarked | .e => true))))
theorem invK_step {c : CfK} {lb : LbK} {s t : KS} {r : Bool} (h : InvK c s = true) (e : outK c lb s = some (t, r)) : InvK c t = true ∧ ((!c.mkh || c.ag || c.lone || c.fresh) = true → r = false) := by
  obtain ⟨fresh, lone, mkh, op, ag⟩ := c
  obtain ⟨y, l⟩ := s
  revert h e
  cases fresh <;> cases lone <;> cases mkh <;> cases op <;> cases ag <;> cases y <;> cases l <;> cases lb <;> intro h e <;> first | (exact absurd h (by decide)) | (cases e; done) | (cases e; exact ⟨by decide, by decide⟩)
theorem condK (W : Wd) : condB W.mks W.B (.kind W.home) = ((cfK W).mkh && (!(cfK W).ag && (!(cfK W).lone && !(cfK W).fresh))) := rfl
theorem safe_kind (hs : (kindM K W).Safe) : condB W.mks W.B (.kind W.home) = false := by
  rw [condK]
  cases z : ((cfK W).mkh && (!(cfK W).ag && (!(cfK W).lone && !(cfK W).fresh))) with
  | false => rfl
  | true =>
    simp only [Bool.and_eq_true, Bool.not_eq_true'] at z
    obtain ⟨r1, r2, r3, r4, r5, r6, r7⟩ := kind_run z.1 z.2.1 z.2.2.1 z.2.2.2
    have st : ∀ {s t : KS} {r : Bool} (l : LbK), l ∈ allLk → (kindM K W).Reach s → outK (cfK W) l s = some (t, r) → (kindM K W).Reach t := fun {s t r} l hl h e => .step (M := kindM K W) (r := r) (l := l) h hl e
    have h6 := st .put (by decide) (st .do_ (by decide) (st .look (by decide) (st .look (by decide) (st .mark (by decide) (st .put (by decide) (.start : (kindM K W).Reach s0K) r1) r2) r3) r4) r5) r6
    have := hs _ h6 LbK.do_ (show LbK.do_ ∈ allLk by decide) _ _ r7
    exact absurd (show (true : Bool) = false from this) (by decide)
theorem way_kind {ls : List LbK} (hw : (kindM K W).Way ls) : condB W.mks W.B (.kind W.home) = true := by
  obtain ⟨pre, l, s, t, r, _, _, e, hb, hr, _, _⟩ := hw
  have hi : InvK (cfK W) s = true := by
    refine Mc.ind (kindM K W) (I := fun s => InvK (cfK W) s = true) ?_ (fun s t r l ih e => (invK_step ih e).1) hr
    show InvK (cfK W) ⟨.new, .e⟩ = true
    unfold InvK
    cases (cfK W).mkh <;> cases (cfK W).fresh <;> cases (cfK W).lone <;> rfl
  have hr2 : r = true := hb
  rw [condK]
  cases z : ((cfK W).mkh && (!(cfK W).ag && (!(cfK W).lone && !(cfK W).fresh))) with
  | true => rfl
  | false =>
    have := (invK_step hi e).2 (by
      revert z
      cases (cfK W).mkh <;> cases (cfK W).fresh <;> cases (cfK W).lone <;> cases (cfK W).ag <;> simp)
    rw [this] at hr2
    cases hr2
end
end Ls
/-! LsV19 -/
set_option Elab.async false
set_option linter.all false
set_option maxRecDepth 100000
namespace Ln
open PySem PySem.Spec PyProof.Rows L2 Lx
open Evl (Ex Ex.refl Ex.trans Ex.mut Ex.new Ev EvT EvL EvU EvA ex_l ex_t ex_rd sq_of st_of sz_of sz_lt fresh_back)
section
variable {X : Cx} {a c d : Expr} {σ : L2.St} {H : Hp} {N : Nat} {Q : VN} {pos : Pos}
theorem en_ifE {b : Bool} (h : XT X d σ H b) (h1 : b = true → ∀ H1, Ex H H1 → eN X a σ H1 N Q) (h2 : b = false → ∀ H1, Ex H H1 → eN X c σ H1 N Q) : eN X (.IfExp d a c pos) σ H N Q := fun pins s hn I => by
  refine wpAny_IfExp (thnT hn (h H (Ex.refl H) (fun b' H1 => b' = b ∧ Ex H H1) (fun H1 e1 => ⟨rfl, e1⟩) pins s I) fun d s1 n1 ⟨H1, I1, eb, e1⟩ => ?_)
  subst eb
  cases d with
  | true => exact h1 rfl H1 e1 pins s1 n1 I1
  | false => exact h2 rfl H1 e1 pins s1 n1 I1
end
end Ln
namespace Lx
open PySem PySem.Spec PyProof.Rows L2 Evl
section
variable {X : Cx} {a c : Expr} {σ : L2.St} {H : Hp} {pos : Pos} {xs : List V} {i : Int} {v : V}
theorem x_ixN (ha : XL X a σ H xs) (hb : XE X c σ H (.int i)) (hi : atI xs i = some v) (hs : PlainIx c := by intro _ _; rfl) : XE X (.Subscript a c pos) σ H v :=
  xe (pe_ix ix_list peT peT hs) fun H1 e Q q => ha H1 e _ fun p H2 p0 e2 hp => hb H2 (e.trans e2) _ fun H3 e3 => rv_ixL (sq_of (e3 _ _ hp)) hi H3 (Ex.refl _) Q fun H4 e4 => q H4 ((e2.trans e3).trans e4)
end
end Lx
namespace Ls
open PySem PySem.Spec PyProof.Rows L2 Lx Ln
open Evl (Ex Ex.refl Ex.trans Ex.mut Ex.new Ev EvT EvL EvU EvA ex_l ex_t ex_rd sq_of st_of sz_of sz_lt fresh_back)
open Lsm (X5 O3 Y4 L10 Le Wr Lb Qn Cf)
section
variable {P : Program} {wd : World} {K : PySem.W.Frag} {mg : Str → Option Value} {base : Heap}
theorem LbR.wl {f : Bool} {lb : Lb} {N : Nat} {v : V} {H : Hp} (h : LbR f lb N v H) : ∃ p, v = V.ref p ∧ SqT K H p ((lbT f lb).map V.str) := by
  have lab : ∀ {w c : Str} {v : V}, LabC N w c v H → ∃ p, v = V.ref p ∧ SqT K H p [.str w, .str c] := fun {w c v} h => by
    obtain ⟨p, e⟩ : ∃ p, v = V.ref p := by
      obtain ⟨q, o, uw, t, e, _⟩ := h
      exact ⟨q, e⟩
    subst e
    exact ⟨p, rfl, LabC.sq h⟩
  have sg : ∀ k, sgn1 (code f k) = kS f k := fun k => by cases f <;> cases k <;> decide
  have tp : ∀ {ts : List Str}, TupR ts v H → ∃ p, v = V.ref p ∧ SqT K H p (ts.map V.str) := fun ⟨p, e, h⟩ => ⟨p, e, st_of h⟩
  cases lb with
  | look k => obtain ⟨p, e, h1⟩ := lab h; rw [sg] at h1; exact ⟨p, e, h1⟩
  | do_ k => obtain ⟨p, e, h1⟩ := lab h; rw [sg] at h1; exact ⟨p, e, h1⟩
  | stop k => obtain ⟨p, e, h1⟩ := lab h; rw [sg] at h1; exact ⟨p, e, h1⟩
  | _ => exact tp h
theorem map_len_le {α β : Type} (f : α → β) (l : List α) {n : Nat} (h : l.length ≤ n) : (l.map f).length ≤ n := by rw [List.length_map]; exact h
/-- all that judge asks of a watch -/
structure Full (P : Program) (wd : World) (K : PySem.W.Frag) (mg : Str → Option Value) (base : Heap) (M : Mc) (w : Addr) (H : Hp) (qw : Str) (once : Bool) : Prop where
  ok : McOk P wd K mg base M
  at_ : M.At w H
  wd_ : M.word = qw
  safe : M.Safe → once = false
  way : ∀ path, M.Way path → once = true
  wk : ∀ {pvs : List V} {path : List M.Lb} {p : Addr} {H' : Hp} {N' : Nat}, Ex H H' → H' p = some (.lst pvs) → Paired (fun v lb => M.lbR lb N' v H') pvs path → M.Way path → ∃ wk f path', Wk.At K H' w wk ∧ WayL K f H' p path' ∧ Wok wk false false .e path' ∧ path'.length ≤ 2100
theorem way_run {M : Mc} {path : List M.Lb} (h : M.Way path) : (∃ t, M.run M.s0 path = some t) ∧ path.length ≤ 2100 := by
  obtain ⟨pre, l, s, t, r, e, h1, h2, _, _, _, h3⟩ := h
  exact ⟨⟨t, by rw [e]; exact M.run_snoc h1 h2⟩, h3⟩
theorem full_of (T : Tf K mg) {B : Bk} {qu : Qu} {w : Addr} {H : Hp} {mk : Str → Bool} (hm : ∀ k, mk k = true ↔ Mkb B k) (h : WatR K B qu w H) : ∃ M : Mc, Full P wd K mg base M w H qu.w (condB mk B qu) := by
  cases qu with
  | kind k =>
    obtain ⟨W, h1, hB, hk, h4⟩ := h
    subst hB hk
    have mks : ∀ k, W.mks k = true ↔ Mkb W.B k := fun k => by unfold Wd.mks; rw [decide_eq_true_iff]; exact h1.mkb k
    have em : ∀ k, mk k = W.mks k := fun k => Bool.eq_iff_iff.mpr ((hm k).trans (mks k).symm)
    refine ⟨kindM K W, kindM_ok T W, ⟨h1, h4⟩, rfl, fun hs => ?_, fun path hw => ?_, fun {pvs path p H' N'} e hp hpr hw => ?_⟩
    · rw [condB_congr em]; exact safe_kind hs
    · rw [condB_congr em]; exact way_kind hw
    · obtain ⟨⟨t, hr⟩, hl⟩ := way_run hw
      refine ⟨.k W, true, List.map toLb path, h1.mono e, ⟨pvs, sq_of hp, ?_⟩, wok_kind (fun z => (mks _).mp z) hr (fun z => nomatch z), map_len_le toLb path hl⟩
      clear hw hr hl hp
      revert hpr
      generalize hG : N' = NN
      intro hpr
      have : ∀ {pvs : List V} {path : List LbK}, Paired (fun v lb => LkR lb NN v H') pvs path → Paired (fun v lb => ∃ p, v = V.ref p ∧ SqT K H' p ((lbT true lb).map V.str)) pvs (path.map toLb) := fun {pvs path} h => by
        induction h with
        | nil => exact .nil
        | cons a _ ih => exact .cons (LkR.lb a).wl ih
      exact this hpr
  | col n c =>
    obtain ⟨W, x, h1, hB, hc, ho⟩ := h
    subst hB hc
    have mks : ∀ k, W.mks k = true ↔ Mkb W.B k := fun k => by unfold Wd.mks; rw [decide_eq_true_iff]; exact h1.wa.mkb k
    have em : ∀ k, mk k = W.mks k := fun k => Bool.eq_iff_iff.mpr ((hm k).trans (mks k).symm)
    refine ⟨colM K W x n, colM_ok T W x n, h1, rfl, fun hs => ?_, fun path hw => ?_, fun {pvs path p H' N'} e hp hpr hw => ?_⟩
    · rw [condB_congr em]; exact safe_col h1 ho hs
    · rw [condB_congr em]; exact way_col h1 ho hw
    · obtain ⟨⟨t, hr⟩, hl⟩ := way_run hw
      refine ⟨.c W x, x.c.fall, path, CwAt.mono h1 e, ⟨pvs, sq_of hp, ?_⟩, wok_col (fun z => (mks _).mp z) hr (fun z => nomatch z) (fun z => nomatch z), hl⟩
      exact Paired.mapP hpr fun v lb h => LbR.wl (show LbR x.c.fall lb _ v H' from h)
def judS (b : Bool) : Str := if b then "once" else "never"
def spJ (K : PySem.W.Frag) (PT : Addr) : SpN := fun vs H N Q => ∃ b a B qu mk, vs = [.ref b, .str (Qu.t qu)] ∧ BkAt K H b a B ∧ BkOk B ∧ qu.ok B ∧ LamX.Tabs (lamT PT) H ∧ (∀ k, mk k = true ↔ Mkb B k) ∧ ∀ r v H' N', LamX.ExtN H H' → LamX.Tabs (lamT PT) H' → H' r = some (.tup [.str (judS (condB mk B qu)), v]) → Q (.ref r) H' N'
set_option maxHeartbeats 2000000 in
theorem ok_judge (T : Tf K mg) (S : TfS P K) (I : TfI K) (NA : NumAt K wd mg) {c PT : Addr} (F : DFC K mg "table" (top 60) ["book", "question"] c) (TB : LamX.TabB base mg c PT) : CalT P wd K mg base 9 "judge" (spJ K PT) := by
  refine calT_of (Ns := ["book", "question", "found", "watch", "way"]) T.d_judge (by decide +kernel) (fun vs H N Q ⟨b, a, B, qu, mk, e, _⟩ => by rw [e]; rfl) fun f cdv A outer sh H N vs Q hr nd h => ?_
  obtain ⟨b, a, B, qu, mk, rfl, hB, O, hq, hT, hm, q⟩ := h
  refine bn_if (b := false) (t_is (t_eqS (x_call (ok_cq T) hr (x_acons (x_var 0) (x_acons (x_var 1) x_anil)) (v_cq hB O hq)) x_str) (decide_eq_false (qt_ne qu))) (fun e => nomatch e) fun _ H1 e1 => bn_nil ?_
  refine bn_st (b_setN 3 (xn_call (ok_watch_of T S) hr (x_acons (x_var 0) (x_acons (x_var 1) x_anil)) (R := WatR K B qu) fun H2 e2 Q q => ⟨b, a, B, qu, rfl, hB.mono (e1.trans e2), O, hq, q⟩) fun w H2 w0 e2 hW => b_nil ?_)
  obtain ⟨M, FM⟩ := full_of (P := P) (wd := wd) (base := base) T hm hW
  have e12 := e1.trans e2
  refine bn_asg (en_call (ok_way T FM.ok) hr (an_cons (en_xe (x_var 3) fun H3 e3 => an_cons (en_xe (x_ixN (xl_split (x_var 1) x_str (by decide) (Nat.le_trans (qt_len O hq) (by decide))) x_int (v := .str qu.w) ?_) fun H4 e4 => an_nil ?_)))) (pg_name (i := 4) nd rfl (.inl rfl))
  · rw [show qu.t = qu.w ++ " " ++ qu.n from rfl, split_q (qw_sp qu).1 (name_sp (Qu.nm O hq))] <;> rfl
  have e34 := e3.trans e4
  refine ⟨w, by rw [FM.wd_], FM.ok.at_ex FM.at_ e34, fun H5 N5 e5 hsafe => ?_, fun p pvs path H5 N5 p0 e5 hp hpr hway => ?_⟩
  · have hx := (e12.trans e34).trans e5
    refine bn_ret (en_ifE (b := true) (t_is (t_isN (x_var 4) x_non) (by decide)) (fun _ H6 e6 => en_tup (an_cons (en_xe x_str fun H7 e7 => an_cons (en_call (ok_table T S F TB) hr (an_xa (x_acons (x_var 0) (x_acons (x_var 1) x_anil)) fun H8 e8 => ?_)) ))) fun e => nomatch e)
    have h8 := ((hx.trans e6).trans e7).trans e8
    refine ⟨b, a, B, qu, rfl, hB.mono h8, O, hq, hT.ext h8, fun r H9 N9 eN T9 => an_nil ⟨show 2 ≤ 100000 by decide, fun p hp => ?_⟩⟩
    have eN' := ((LamX.ExtN.of h8).trans eN).trans (LamX.ExtN.of (Ex.new (o := .tup [.str "never", .ref r]) hp))
    refine q p (.ref r) _ N9 eN' (T9.ext (Ex.new hp)) ?_
    rw [upd_same, FM.safe hsafe] <;> rfl
  · have hx := (e12.trans e34).trans e5
    refine bn_ret (en_ifE (b := false) (t_is (t_isN (x := .ref p) (x_var 4) x_non) (decide_eq_false (show ¬ (V.ref p = V.non) from fun z => nomatch z))) (fun e => nomatch e) fun _ H6 e6 => en_tup (an_cons (en_xe x_str fun H7 e7 => an_cons (en_e (xn_meth0N (R := fun _ _ => True) (ok_woven T I NA) hr (xn_mk (ok_vinit T NA) hr (x_acons (x_var 3) (x_acons (x_var 4) x_anil)) (m_weaver (w := w) (pw := p))) (fun p2 H8 e8 p20 ⟨a8, ea, ew, epw, hW8⟩ => ?_) (q := fun r H8 e8 _ => an_nil ⟨show 2 ≤ 100000 by decide, fun p3 hp3 => ?_⟩))))))
    · have h8 := ((hx.trans e6).trans e7).trans e8
      have e9 := h8.trans (Ex.new (o := .tup [.str "once", .ref r]) hp3)
      refine q p3 (.ref r) _ N5 (LamX.ExtN.of e9) (hT.ext e9) ?_
      rw [upd_same, FM.way _ hway] <;> rfl
    · obtain ⟨wk, f, path', k1, k2, k3, k4⟩ := FM.wk (((e34.trans e5).trans e6).trans e7) (e7 _ _ (e6 _ _ hp)) (Paired.mapP hpr fun v lb h => FM.ok.lb_keep h (Nat.le_refl _) (Kp.ex (e6.trans e7))) hway
      rw [← ea]
      refine ⟨_, _, (hW8 f).hv, rfl, fun Q q => ⟨a8, H7, wk, f, path', rfl, hW8 f, by rw [ew]; exact k1, by rw [epw]; exact k2, k3, k4, fun r H' e' => q r H' e' trivial⟩⟩
end
end Ls
/-! LsD1 -/
set_option Elab.async false
set_option linter.all false
set_option maxRecDepth 100000
namespace Lx
open PySem PySem.Spec PyProof.Rows L2 Evl
section
variable {X : Cx} {a c e i : Expr} {es : List Expr} {rest : List Stmt} {σ : L2.St} {H : Hp} {D : Ends} {pos p1 p2 : Pos} {p : Addr} {items : List V} {j : Int} {n : Nat} {v : V}
/-- l[i] = e, whatever e changes -/
theorem b_lsetQ (h : eT X e σ H fun v H1 => ∃ p items j n, XE X a σ H1 (.ref p) ∧ XE X i σ H1 (.int j) ∧ H1 p = some (.lst items) ∧ ixN items.length j = some n ∧ ∀ H2, Ex H1 H2 → bT X rest D σ (upd H2 p (.lst (items.set n v)))) (hs : swapsWithSole [.Subscript a i p2] e pos.line X.env = pure false := by rfl) (hw : swappedStores [.Subscript a i p2] e X.env = pure none := by rfl)
    (h1 : (assignEach [.Subscript a i p2] X.env).map (·.2) = [assign (.Subscript a i p2) X.env] := by rfl) (ht : ∀ v, assign (.Subscript a i p2) X.env v = (do
      let ov ← holding [v] (eval a X.env)
      let iv ← holding [v, ov] (eval i X.env)
      standAt p2
      holding [v, ov, iv] (setItem ov iv v)
      release [v, ov, iv] []) := by intro _; rfl) : bT X (.Assign [.Subscript a i p2] e pos :: rest) D σ H :=
  b_cons (ws (ps_asg peT (pg_sub peT peT set_list ht) hs hw h1) (fun pins s I => thn (h pins s I) fun u s1 ⟨v, H1, I1, r1, p, items, j, n, ha, hi, hp, hn, q⟩ => ⟨v, H1, I1, r1, ha H1 (Ex.refl H1) _ fun H2 e2 => hi H2 e2 _ fun H3 e3 => ⟨p, items, j, n, rfl, rfl, (e2.trans e3) _ _ hp, hn, q H3 (e2.trans e3)⟩⟩))
theorem b_lset {items : List V} {n : Nat} (h : XE X e σ H v) (ha : XE X a σ H (.ref p)) (hi : XE X i σ H (.int j)) (hp : H p = some (.lst items)) (hn : ixN items.length j = some n) (q : ∀ H2, Ex H H2 → bT X rest D σ (upd H2 p (.lst (items.set n v)))) (hs : swapsWithSole [.Subscript a i p2] e pos.line X.env = pure false := by rfl) (hw : swappedStores [.Subscript a i p2] e X.env = pure none := by rfl)
    (h1 : (assignEach [.Subscript a i p2] X.env).map (·.2) = [assign (.Subscript a i p2) X.env] := by rfl) (ht : ∀ v, assign (.Subscript a i p2) X.env v = (do
      let ov ← holding [v] (eval a X.env)
      let iv ← holding [v, ov] (eval i X.env)
      standAt p2
      holding [v, ov, iv] (setItem ov iv v)
      release [v, ov, iv] []) := by intro _; rfl) : bT X (.Assign [.Subscript a i p2] e pos :: rest) D σ H :=
  b_lsetQ (h H (Ex.refl H) _ fun H1 e1 => ⟨p, items, j, n, fun H2 e2 => ha H2 (e1.trans e2), fun H2 e2 => hi H2 (e1.trans e2), e1 _ _ hp, hn, fun H2 e2 => q H2 (e1.trans e2)⟩) hs hw h1 ht
/-- l != [] of ints -/
theorem depth_ints : ∀ ns : List Int, PyData.depthAll (ns.map PyData.int) = 0
  | [] => rfl
  | n :: ns => by
    show max (PyData.depth (.int n)) (PyData.depthAll (ns.map PyData.int)) = 0
    rw [depth_ints ns]
    rfl
theorem lay_ints : ∀ ns : List Int, PyData.canLayAll0 (ns.map PyData.int) = true
  | [] => rfl
  | n :: ns => by
    show (PyData.canLay0 (.int n) && PyData.canLayAll0 (ns.map PyData.int)) = true
    rw [lay_ints ns]
    rfl
theorem shaped_ints (ns : List Int) : SeqAt.shaped (.list (ns.map PyData.int)) = true := by
  unfold SeqAt.shaped
  rw [Bool.and_eq_true]
  refine ⟨lay_ints ns, decide_eq_true ?_⟩
  show PyData.depthAll (ns.map PyData.int) + 1 ≤ 64
  rw [depth_ints]
  decide
theorem dp_ints {K : PySem.W.Frag} {H : Hp} : ∀ ns : List Int, DpAll K H (ns.map V.int) (ns.map PyData.int)
  | [] => .nil
  | n :: ns => .cons (.int n) (dp_ints ns)
theorem t_neE {ns : List Int} {k : Nat} (hr : Room k X.A) (ha : XE X a σ H (.ref p)) (hp : SqL X.K H p (ns.map V.int)) (hm : behindInMarks .NotEq (.List [] p2) = false := by exact nomark _) : XT X (.Compare a [.NotEq] [.List [] p2] pos) σ H (!decide (ns = [])) :=
  xt (pt_cmpR (op_neD (by have := hr.un; omega)) peT peT hm) fun H1 e1 Q q => ha H1 e1 _ fun H2 e2 => (x_lst x_anil (by decide)) H2 (e1.trans e2) _ fun l H3 l0 e3 hl =>
    ⟨.list (ns.map PyData.int), .list [], .lst (ex_l ((e1.trans e2).trans e3) hp) (dp_ints ns), .lst (sq_of hl) .nil, shaped_ints ns, by decide, ⟨_, by
      refine congrArg V.bl ?_
      show (!PyData.eqvAll (ns.map PyData.int) []) = _
      cases ns with
      | nil => rfl
      | cons _ _ => rfl, q H3 (e2.trans e3)⟩⟩
/-! ### expressions that change things -/
theorem e_x {Q : VK} (h : XE X e σ H v) (k : ∀ H1, Ex H H1 → Q v H1) : eT X e σ H Q := h H (Ex.refl H) Q k
theorem a_nil {Q : List V → Hp → Prop} (h : Q [] H) : aT X [] σ H Q := wa pa_nil h
theorem a_cons {Q : List V → Hp → Prop} (h : eT X a σ H fun v H1 => aT X es σ H1 fun vs H2 => Q (v :: vs) H2) (hs : starEach (a :: es) X.env = (false, eval a X.env) :: starEach es X.env := by rfl) : aT X (a :: es) σ H Q := wa (pa_cons peT paT hs) h
theorem e_call {Q : VK} {x : Str} {sp : Sp} {k j : Nat} (cl : C8.Cal X.prog X.w X.K X.mg X.base k x sp []) (hr : Room j X.A) (h : aT X (a :: es) σ H fun vs H1 => sp vs H1 Q C8.E0) (hk : k ≤ j := by decide) (hg : Gl X x := by rfl) (hdb : (x == ("__debug__" : Str)) = false := by decide)
    (he : starEach (a :: es) X.env = (false, eval a X.env) :: starEach es X.env := by rfl) (hpl : (backTo pos (starEach es X.env)).any (·.1) = false := by rfl) : eT X (.Call (.Name x p1) (a :: es) [] pos) σ H Q :=
  we (C8.pe_c cl hr hk hg paT hdb he hpl) (fun po pins s I => thn (h po pins s I) fun us s1 ⟨vs, H1, I1, r1, q1⟩ => ⟨vs, H1, I1, r1, by
    have z : sp vs H1 Q C8.E0 := q1
    show sp (vs ++ []) H1 Q C8.E0
    rw [List.append_nil]
    exact z⟩)
theorem e_op {Q : VK} {op : Operator} {r : R2} (ho : OpR X (binaryOp op) r) (h : eT X a σ H fun x H1 => eT X c σ H1 fun y H2 => r x y H2 Q) : eT X (.BinOp a op c pos) σ H Q := we (pe_op ho peT peT) h
theorem e_cmp {Q : VK} {op : CmpOp} {r : R2} (ho : OpR X (compareOp op) r) (h : eT X a σ H fun x H1 => eT X c σ H1 fun y H2 => r x y H2 Q) (hm : behindInMarks op c = false) : eT X (.Compare a [op] [c] pos) σ H Q := we (pe_cmpR ho peT peT hm) h
theorem tt_cmp {Q : Bool → Hp → Prop} {op : CmpOp} {r : R2} (ho : OpR X (compareOp op) r) (h : eT X a σ H fun x H1 => eT X c σ H1 fun y H2 => r x y H2 fun v H3 => ∃ b, v = .bl b ∧ Q b H3) (hm : behindInMarks op c = false) : tT X (.Compare a [op] [c] pos) σ H Q :=
  wt (pt_cmpR ho peT peT hm) h
end
end Lx

namespace Ls
open PySem PySem.Spec PyProof.Rows L2 Lx Ln
open Evl (Ex Ex.refl Ex.trans Ex.mut Ex.new Ev EvT EvL EvU EvA ex_l ex_t ex_rd sq_of st_of sz_of sz_lt fresh_back rv_I rv_I0)
section
variable {P : Program} {wd : World} {K : PySem.W.Frag} {mg : Str → Option Value} {base : Heap}
/-- the law's stream at st, its list at l, n draws so far -/
structure Sm (H : Hp) (st l : Addr) (n : Int) : Prop where
  ex : ∃ (xs : List Int) (c m : Int), H st = some (.lst [.ref l, .int c, .int n, .int m]) ∧ H l = some (.lst (xs.map V.int)) ∧ 0 ≤ c ∧ 0 ≤ m ∧ m < 2147483647
  n0 : 0 ≤ n
theorem Sm.keep {H H' : Hp} {st l : Addr} {n : Int} (s : Sm H st l n) (e : Ex H H') : Sm H' st l n := let ⟨xs, c, m, h1, h2, h3⟩ := s.ex; ⟨⟨xs, c, m, e _ _ h1, e _ _ h2, h3⟩, s.n0⟩
theorem Sm.ne {H : Hp} {st l : Addr} {n : Int} (s : Sm H st l n) : l ≠ st := fun z => by
  obtain ⟨xs, c, m, h1, h2, _⟩ := s.ex
  rw [z, h1] at h2
  injection h2 with h2
  injection h2 with h2
  cases xs with
  | nil => cases h2
  | cons x xs =>
    injection h2 with h2 _
    cases h2
def spDraw : Sp := fun vs H Q _ => ∃ st l n k, vs = [.ref st, .int k] ∧ Sm H st l n ∧ 0 < k ∧ k ≤ 1000 ∧ n ≤ 100000 ∧ ∀ r H', 0 ≤ r → r < k → Keep2 st l H H' → Sm H' st l (n + 1) → Q (.int r) H'
set_option maxHeartbeats 1000000 in
theorem ok_draw (T : Tf K mg) : C8.Cal P wd K mg base 1 "_law_draw" spDraw [] := by
  refine cal_of (N := ["_law_stream", "_law_many", "_law_digit", "_law_mixed_here"]) T.d_law_draw (by decide +kernel) (fun vs H Q E ⟨st, l, n, k, e, _⟩ => by rw [e]; rfl) fun f cdv A outer s H vs Q E hr nd h => ?_
  obtain ⟨st, l, n, k, rfl, hS, k0, k1, n1, q⟩ := h
  have nl := hS.ne
  have n0 := hS.n0
  obtain ⟨xs, c, m, h1, h2, c0, m0, m1⟩ := hS.ex
  refine b_lset (x_add (x_ixL (x_var 0) x_int (sq_of h1) rfl) x_int) (x_var 0) x_int h1 rfl fun H1 e1 => ?_
  have K1 : Keep2 st l H (upd H1 st (.lst [.ref l, .int c, .int (n + 1), .int m])) := (Keep2.of_ex e1).trans Keep2.ud
  have s1 : upd H1 st (.lst [.ref l, .int c, .int (n + 1), .int m]) st = some (.lst [.ref l, .int c, .int (n + 1), .int m]) := upd_same
  have l1 : upd H1 st (.lst [.ref l, .int c, .int (n + 1), .int m]) l = some (.lst (xs.map V.int)) := by rw [upd_ne nl]; exact e1 _ _ h2
  show bT _ _ _ _ (upd H1 st (.lst [.ref l, .int c, .int (n + 1), .int m]))
  generalize upd H1 st (.lst [.ref l, .int c, .int (n + 1), .int m]) = G1 at K1 s1 l1 ⊢
  refine b_ifJ (fun σ' H' => ∃ xs c m, σ' = [some (.ref st), some (.int k), none, none] ∧ Keep2 st l H H' ∧ H' st = some (.lst [.ref l, .int c, .int (n + 1), .int m]) ∧ H' l = some (.lst (xs.map V.int)) ∧ 0 ≤ c ∧ 0 ≤ m ∧ m < 2147483647) (b := decide (V.int c = V.int 0) && !decide (xs = [])) (t_w (w_and (t_eq (x_ixL (x_var 0) x_int (sq_of s1) rfl) x_int) fun _ => w_and1 (t_neE hr (x_ixL (x_var 0) x_int (sq_of s1) rfl) (sq_of l1)))) (fun hb H2 e2 => ?_) (fun hb H2 e2 => b_nil ⟨xs, c, m, rfl, K1.trans (Keep2.of_ex e2), e2 _ _ s1, e2 _ _ l1, c0, m0, m1⟩) ?_
  · obtain ⟨x, xs, rfl⟩ : ∃ x xs', xs = x :: xs' := by
      cases xs with
      | nil => simp at hb
      | cons x xs' => exact ⟨x, xs', rfl⟩
    have s2 := e2 _ _ s1
    have l2 := e2 _ _ l1
    rw [List.map_cons] at l2
    refine b_lsetQ (e_pop0 l2 (x_ixL (x_var 0) x_int (sq_of s2) rfl) x_int fun H3 e3 => ⟨st, _, 1, 1, x_var 0, x_int, by rw [upd_ne (Ne.symm nl)]; exact e3 _ _ s2, rfl, fun H4 e4 => ?_⟩)
    have K4 : Keep2 st l H (upd H4 st (.lst [.ref l, .int x, .int (n + 1), .int m])) := (((K1.trans (Keep2.of_ex e2)).trans (Keep2.of_ex e3)).trans Keep2.ul).trans ((Keep2.of_ex e4).trans Keep2.ud)
    have s4 : upd H4 st (.lst [.ref l, .int x, .int (n + 1), .int m]) st = some (.lst [.ref l, .int x, .int (n + 1), .int m]) := upd_same
    have l4 : upd H4 st (.lst [.ref l, .int x, .int (n + 1), .int m]) l = some (.lst (xs.map V.int)) := by rw [upd_ne nl]; exact e4 _ _ upd_same
    show bT _ _ _ _ (upd H4 st (.lst [.ref l, .int x, .int (n + 1), .int m]))
    generalize upd H4 st (.lst [.ref l, .int x, .int (n + 1), .int m]) = G4 at K4 s4 l4 ⊢
    refine b_if (b := decide (x < (10 : Int) ^ 18)) (t_lt (x_ixL (x_var 0) x_int (sq_of s4) rfl) (x_is (x_op op_pow x_int x_int (rv_I ⟨by decide, by decide, by decide⟩)) rfl)) (fun hb2 H5 e5 => ?_) fun hb2 H5 e5 => b_nil (b_nil ⟨xs, x, m, rfl, K4.trans (Keep2.of_ex e5), e5 _ _ s4, e5 _ _ l4, ?_, m0, m1⟩)
    · have s5 := e5 _ _ s4
      have l5 := e5 _ _ l4
      refine b_lset (x_op op_mod (x_ty call_int1 T.b_int (show bootBuiltins "int" = some (.type "int") by decide +kernel) (x_acons (x_add (x_add (x_op op_mul (x_ixL (x_var 0) x_int (sq_of s5) rfl) x_int (rv_I (.inr ⟨by decide, by decide⟩))) (x_ixL (x_var 0) x_int (sq_of s5) rfl)) x_int) x_anil) fun H8 e8 Q q => .inl ⟨_, rfl, q H8 (Ex.refl _)⟩) x_int (rv_I (show (0 : Int) < 2147483647 by decide))) (x_var 0) x_int s5 rfl fun H6 e6 => ?_
      have K6 : Keep2 st l H (upd H6 st (.lst [.ref l, .int x, .int (n + 1), .int ((m * 31 + x + 7) % 2147483647)])) := ((K4.trans (Keep2.of_ex e5)).trans (Keep2.of_ex e6)).trans Keep2.ud
      have s6 : upd H6 st (.lst [.ref l, .int x, .int (n + 1), .int ((m * 31 + x + 7) % 2147483647)]) st = some (.lst [.ref l, .int x, .int (n + 1), .int ((m * 31 + x + 7) % 2147483647)]) := upd_same
      have l6 : upd H6 st (.lst [.ref l, .int x, .int (n + 1), .int ((m * 31 + x + 7) % 2147483647)]) l = some (.lst (xs.map V.int)) := by rw [upd_ne nl]; exact e6 _ _ l5
      show bT _ _ _ _ (upd H6 st (.lst [.ref l, .int x, .int (n + 1), .int ((m * 31 + x + 7) % 2147483647)]))
      generalize upd H6 st (.lst [.ref l, .int x, .int (n + 1), .int ((m * 31 + x + 7) % 2147483647)]) = G6 at K6 s6 l6 ⊢
      refine b_lset x_int (x_var 0) x_int s6 rfl fun H7 e7 => b_nil (b_nil ⟨xs, 0, _, rfl, (K6.trans (Keep2.of_ex e7)).trans Keep2.ud, upd_same, by rw [upd_ne nl]; exact e7 _ _ l6, by decide, Int.emod_nonneg _ (by decide), Int.emod_lt_of_pos _ (by decide)⟩)
    · have := of_decide_eq_false hb2
      have h18 : (0 : Int) ≤ 10 ^ 18 := by decide
      omega
  rintro σ' H2 ⟨xs, c, m, rfl, K2, s2, l2, c0, m0, m1⟩
  refine b_if (b := decide ((0 : Int) < c)) (t_gt (x_ixL (x_var 0) x_int (sq_of s2) rfl) x_int) (fun hb H3 e3 => ?_) fun hb H3 e3 => b_nil ?_
  · have s3 := e3 _ _ s2
    refine b_set 2 (x_op op_mod (x_ty call_int1 T.b_int (show bootBuiltins "int" = some (.type "int") by decide +kernel) (x_acons (x_ixL (x_var 0) x_int (sq_of s3) rfl) x_anil) fun H8 e8 Q q => .inl ⟨_, rfl, q H8 (Ex.refl _)⟩) (x_var 1) (rv_I k0)) fun H4 e4 => ?_
    have s4 := e4 _ _ s3
    refine b_lset (x_op op_fdiv (x_ixL (x_var 0) x_int (sq_of s4) rfl) (x_var 1) (rv_I ⟨k0, by omega⟩)) (x_var 0) x_int s4 rfl fun H5 e5 => b_ret (x_var 2) fun H6 e6 => q _ H6 (Int.emod_nonneg _ (by omega)) (Int.emod_lt_of_pos _ k0) ((((K2.trans (Keep2.of_ex e3)).trans (Keep2.of_ex (e4.trans e5))).trans Keep2.ud).trans (Keep2.of_ex e6)) ⟨⟨xs, c / k, m, e6 _ _ upd_same, e6 _ _ ?_, Int.ediv_nonneg c0 (by omega), m0, m1⟩, by omega⟩
    rw [upd_ne nl]
    exact e5 _ _ (e4 _ _ (e3 _ _ l2))
  · have s3 := e3 _ _ s2
    refine b_set 3 (x_op op_mod (x_op op_pow (x_add (x_add (x_ixL (x_var 0) x_int (sq_of s3) rfl) (x_op op_mul x_int (x_ixL (x_var 0) x_int (sq_of s3) rfl) (rv_I (.inl ⟨by decide, by decide⟩)))) x_int) x_int (rv_I ⟨by decide, by decide, ?_⟩)) x_int (rv_I (show (0 : Int) < 2147483629 by decide))) fun H4 e4 => ?_
    · omega
    have s4 := e4 _ _ s3
    generalize hh : ((m + 104729 * (n + 1) + 17) ^ (5 : Int).toNat) % 2147483629 = hv
    have hv0 : 0 ≤ hv := by rw [← hh]; exact Int.emod_nonneg _ (by decide)
    have hv1 : hv < 2147483629 := by rw [← hh]; exact Int.emod_lt_of_pos _ (by decide)
    have hn2 : (n + 1) * (n + 1) ≤ 100001 * 100001 := Int.mul_le_mul (by omega) (by omega) (by omega) (by omega)
    have hn3 : 0 ≤ (n + 1) * (n + 1) := Int.mul_nonneg (by omega) (by omega)
    refine b_ret (x_op op_mod (x_op op_mod (x_op op_pow (x_add (x_add (x_op op_mul (x_var 3) x_int (rv_I (.inr ⟨by decide, by decide⟩))) (x_op op_mul (x_op op_mul x_int (x_ixL (x_var 0) x_int (sq_of s4) rfl) (rv_I (.inl ⟨by decide, by decide⟩))) (x_ixL (x_var 0) x_int (sq_of s4) rfl) (rv_I (.inr ⟨by omega, by omega⟩)))) x_int) x_int (rv_I ⟨by decide, by decide, ?_⟩)) x_int (rv_I (show (0 : Int) < 1000000007 by decide))) (x_var 1) (rv_I k0)) fun H5 e5 => q _ H5 (Int.emod_nonneg _ (by omega)) (Int.emod_lt_of_pos _ k0) ((K2.trans (Keep2.of_ex e3)).trans (Keep2.of_ex (e4.trans e5))) ⟨⟨xs, c, m, e5 _ _ s4, e5 _ _ (e4 _ _ (e3 _ _ l2)), c0, m0, m1⟩, by omega⟩
    rw [Int.mul_assoc]
    omega
end
end Ls
/-! LsD2 -/
set_option Elab.async false
set_option linter.all false
set_option maxRecDepth 100000
namespace Lx
open PySem PySem.Spec PyProof.Rows L2 Evl
theorem yes_if {A B : Prop} (h : A) : if (true : Bool) = true then A else B := by rw [if_pos rfl]; exact h
section
variable {X : Cx} {elt iter e c : Expr} {scope : Scope} {σ : L2.St} {H : Hp} {pos p1 p2 p3 : Pos} {Q : VK}
/-- [elt for y in range(e)], whatever they change -/
theorem e_lcR (j : Nat) {y : Str} (hm : X.mg "range" = none) (h : eT X e σ H fun v H1 => ∃ n : Nat, v = .int (n : Int) ∧ n ≤ 100000 ∧ ∀ D, H1 D = none → ∃ Pv : Nat → Hp → Prop, Pv 0 (upd H1 D (.lst [])) ∧
      (∀ i H', i < n → Pv i H' → ∀ (s : Shared) (H0 : Hp) (C : Addr) (cl : List (Str × Addr)) (fp : List Addr), eT (bk X scope s H0 C cl fp) elt ((σ.set j none).set j (some (.int ((0 : Int) + (i : Int))))) H' fun v H2 => ∃ acc, H2 D = some (.lst acc) ∧ acc.length < 100000 ∧ Pv (i + 1) (upd H2 D (.lst (acc ++ [v])))) ∧ ∀ H', Pv n H' → Q (.ref D) H')
    (hgr : Gl X "range" := by rfl) (hs1 : starEach [e] X.env = [(false, eval e X.env)] := by rfl)
    (hN : X.N.Nodup := by assumption) (hg : ∀ (s : Shared) (H0 : Hp) (C : Addr) (cl : List (Str × Addr)) (fp : List Addr), PG (bk X scope s H0 C cl fp) (.Name y p2) (gName j) := by intro _ _ _ _ _; exact pg_name (by assumption) rfl (Or.inl rfl)) (hc : X.calm = true := by rfl) (ok : BlkOk X.N X.env.scope scope [(y, j)] := by exact blkOk_by (by kernel_rfl)) (hs : ∀ x, foldedSetIterable (.Call (.Name "range" p1) [e] [] p3) X.env x = pure x := by intro _; rfl) :
    eT X (.ListComp elt [⟨.Name y p2, .Call (.Name "range" p1) [e] [] p3, [], 0⟩] scope pos) σ H Q := by
  refine we (pe_lcT [(y, j)] hN (pi_range1 hgr hm paT hs1) hg hc ok hs) ?_
  refine a_cons (fun pins s I => thn (h pins s I) fun u s1 ⟨v, H1, I1, r1, n, ev, hn, q⟩ => ⟨v, H1, I1, r1, a_nil ?_⟩) hs1
  subst ev
  refine ⟨(n : Int), rfl, by omega, by omega, fun D hD => ?_⟩
  have en : ((n : Nat) : Int).toNat = n := by omega
  obtain ⟨Pv, h0, hst, hd⟩ := q D hD
  rw [en]
  refine lc_it walk_range Pv h0 (fun _ _ _ _ => trivial) (fun i x H2 H3 hi hp hy => ?_) fun H2 hp => hd H2 hp
  obtain ⟨rfl, rfl⟩ := hy
  refine ⟨wipe1_set σ j _, fun s H0 C cl fp pins s2 I => pts_nil.run pins s2 _ _ _ I ?_⟩
  show eB X scope elt _ _ _
  exact fun s0 H0 C cl fp pins s I => thn (hst i _ hi hp s0 H0 C cl fp pins s I) fun u s1 ⟨v, H1, I1, r1, acc, h1, h2, h3⟩ => ⟨v, H1, I1, r1, acc, h1, Nat.lt_of_lt_of_le h2 (by decide), h3⟩
theorem tl_L (j : Nat) {y : Str} (h : eT X iter σ H fun v H1 => ∃ a xs, v = .ref a ∧ SqL X.K H1 a xs ∧ ∀ D, H1 D = none → ∃ Pv : Nat → Hp → Prop, Pv 0 (upd H1 D (.lst [])) ∧ (∀ i H', Pv i H' → SqL X.K H' a xs) ∧
      (∀ i x H', xs[i]? = some x → Pv i H' → ∀ (s : Shared) (H0 : Hp) (C : Addr) (cl : List (Str × Addr)) (fp : List Addr), eT (bk X scope s H0 C cl fp) elt ((σ.set j none).set j (some x)) H' fun v H2 => ∃ acc, H2 D = some (.lst acc) ∧ acc.length < 100000 ∧ Pv (i + 1) (upd H2 D (.lst (acc ++ [v])))) ∧ ∀ H', Pv xs.length H' → Q (.ref D) H') :
    tLc (iList X.K (eT X iter)) (gName j) (tsB X scope []) (eB X scope elt) ([(y, j)].map (·.2)) σ H Q := by
  refine (fun pins s I => thn (h pins s I) fun u s1 ⟨v, H1, I1, r1, a, xs, ev, hl, q⟩ => ⟨v, H1, I1, r1, a, ev, ⟨xs, hl⟩, fun D hD => ?_⟩)
  obtain ⟨Pv, h0, hq, hst, hd⟩ := q D hD
  refine lc_it (walk_list (K := X.K) (a := a) (xs := xs)) Pv h0 (fun i H' _ hp => hq i H' hp) (fun i x H2 H3 hi hp hy => ?_) fun H2 hp => hd H2 hp
  obtain ⟨rfl, hx⟩ := hy
  refine ⟨wipe1_set σ j _, fun s H0 C cl fp pins s2 I => pts_nil.run pins s2 _ _ _ I ?_⟩
  show eB X scope elt _ _ _
  exact fun s0 H0 C cl fp pins s I => thn (hst i _ _ hx hp s0 H0 C cl fp pins s I) fun u s1 ⟨v, H1, I1, r1, acc, h1, h2, h3⟩ => ⟨v, H1, I1, r1, acc, h1, Nat.lt_of_lt_of_le h2 (by decide), h3⟩
theorem tl_F (j : Nat) {y : Str} (h : eT X iter σ H fun v H1 => ∃ a xs, v = .ref a ∧ SqL X.K H1 a xs ∧ ∀ D, H1 D = none → ∃ Pv : Nat → Hp → Prop, Pv 0 (upd H1 D (.lst [])) ∧ (∀ i H', Pv i H' → SqL X.K H' a xs) ∧
      (∀ i x H', xs[i]? = some x → Pv i H' → ∀ (s : Shared) (H0 : Hp) (C : Addr) (cl : List (Str × Addr)) (fp : List Addr), tT (bk X scope s H0 C cl fp) c ((σ.set j none).set j (some x)) H' fun b H3 => (b = false → Pv (i + 1) H3) ∧ (b = true → ∀ (s : Shared) (H0 : Hp) (C : Addr) (cl : List (Str × Addr)) (fp : List Addr), eT (bk X scope s H0 C cl fp) elt ((σ.set j none).set j (some x)) H3 fun v H2 => ∃ acc, H2 D = some (.lst acc) ∧ acc.length < 100000 ∧ Pv (i + 1) (upd H2 D (.lst (acc ++ [v]))))) ∧ ∀ H', Pv xs.length H' → Q (.ref D) H') :
    tLc (iList X.K (eT X iter)) (gName j) (tsB X scope [c]) (eB X scope elt) ([(y, j)].map (·.2)) σ H Q := by
  refine (fun pins s I => thn (h pins s I) fun u s1 ⟨v, H1, I1, r1, a, xs, ev, hl, q⟩ => ⟨v, H1, I1, r1, a, ev, ⟨xs, hl⟩, fun D hD => ?_⟩)
  obtain ⟨Pv, h0, hq, hst, hd⟩ := q D hD
  refine lc_it (walk_list (K := X.K) (a := a) (xs := xs)) Pv h0 (fun i H' _ hp => hq i H' hp) (fun i x H2 H3 hi hp hy => ?_) fun H2 hp => hd H2 hp
  obtain ⟨rfl, hx⟩ := hy
  refine ⟨wipe1_set σ j _, fun s H0 C cl fp pins s2 I => (pts_one ptT).run pins s2 _ _ _ I (fun pins s I => thn (hst i _ _ hx hp _ H0 C cl fp pins s I) fun b s1 ⟨H1, I1, z1, z2⟩ => ⟨H1, I1, ?_⟩)⟩
  cases b with
  | false =>
    rw [if_neg Bool.false_ne_true]
    exact z1 rfl
  | true =>
    rw [if_pos rfl]
    exact fun s0 H0 C cl fp pins s I => thn (z2 rfl s0 H0 C cl fp pins s I) fun u s1 ⟨v, H1, I1, r1, acc, h1, h2, h3⟩ => ⟨v, H1, I1, r1, acc, h1, Nat.lt_of_lt_of_le h2 (by decide), h3⟩
section
variable {els : List Stmt} {D : Ends} {apos : Pos}
/-- z = [elt for y in a list] -/
theorem b_lcL (i j : Nat) {y z : Str} (h : tLc (iList X.K (eT X iter)) (gName j) (tsB X scope []) (eB X scope elt) ([(y, j)].map (·.2)) σ H fun v H1 => bT X els D (σ.set i (some v)) H1)
    (hN : X.N.Nodup := by assumption) (hz2 : X.N[i]? = some z := by rfl) (hzl : X.env.scope.names.lookup z = some .local := by rfl) (hsw : swapsWith (.ListComp elt [⟨.Name y p2, iter, [], 0⟩] scope p1) (some (.Name z apos)) pos.line X.env = pure true := by exact sw_true rfl rfl rfl (by decide +kernel)) (hg : ∀ (s : Shared) (H0 : Hp) (C : Addr) (cl : List (Str × Addr)) (fp : List Addr), PG (bk X scope s H0 C cl fp) (.Name y p2) (gName j) := by intro _ _ _ _ _; exact pg_name (by assumption) rfl (Or.inl rfl))
    (hc : X.calm = true := by rfl) (ok : BlkOk X.N X.env.scope scope [(y, j)] := by exact blkOk_by (by kernel_rfl)) (hs : ∀ x, foldedSetIterable iter X.env x = pure x := by intro _; rfl) :
    bT X (.Assign [.Name z apos] (.ListComp elt [⟨.Name y p2, iter, [], 0⟩] scope p1) pos :: els) D σ H :=
  b_cons (ws (ps_setLc hc hN hz2 hzl hsw (pi_list peT) ok hg (fun s H0 C cl fp => ⟨fun pins s' σ H Q I h => h s H0 C cl fp pins s' I⟩) (fun s H0 C cl fp => ⟨fun pins s' σ H Q I h => h s H0 C cl fp pins s' I⟩) hs) h)
theorem b_lcF (i j : Nat) {y z : Str} (h : tLc (iList X.K (eT X iter)) (gName j) (tsB X scope [c]) (eB X scope elt) ([(y, j)].map (·.2)) σ H fun v H1 => bT X els D (σ.set i (some v)) H1)
    (hN : X.N.Nodup := by assumption) (hz2 : X.N[i]? = some z := by rfl) (hzl : X.env.scope.names.lookup z = some .local := by rfl) (hsw : swapsWith (.ListComp elt [⟨.Name y p2, iter, [c], 0⟩] scope p1) (some (.Name z apos)) pos.line X.env = pure true := by exact sw_true rfl rfl rfl (by decide +kernel)) (hg : ∀ (s : Shared) (H0 : Hp) (C : Addr) (cl : List (Str × Addr)) (fp : List Addr), PG (bk X scope s H0 C cl fp) (.Name y p2) (gName j) := by intro _ _ _ _ _; exact pg_name (by assumption) rfl (Or.inl rfl))
    (hc : X.calm = true := by rfl) (ok : BlkOk X.N X.env.scope scope [(y, j)] := by exact blkOk_by (by kernel_rfl)) (hs : ∀ x, foldedSetIterable iter X.env x = pure x := by intro _; rfl) :
    bT X (.Assign [.Name z apos] (.ListComp elt [⟨.Name y p2, iter, [c], 0⟩] scope p1) pos :: els) D σ H :=
  b_cons (ws (ps_setLc hc hN hz2 hzl hsw (pi_list peT) ok hg (fun s H0 C cl fp => ⟨fun pins s' σ H Q I h => h s H0 C cl fp pins s' I⟩) (fun s H0 C cl fp => ⟨fun pins s' σ H Q I h => h s H0 C cl fp pins s' I⟩) hs) h)
end
end
end Lx
/-! LsD3 -/
set_option Elab.async false
set_option linter.all false
set_option maxRecDepth 100000
namespace Lx
open PySem PySem.Spec PyProof.Rows L2 Evl
section
variable {X : Cx} {a c d e o : Expr} {rest : List Stmt} {σ : L2.St} {H : Hp} {D : Ends} {pos p1 p2 apos : Pos} {ad : Addr} {Q : VK}
theorem b_retQ (h : eT X e σ H D.rt) : bT X (.Return (some e) pos :: rest) D σ H := b_cons (ws (ps_ret peT) h)
theorem e_ixL (h : eT X a σ H fun x H1 => eT X c σ H1 fun y H2 => ∃ p xs i v, x = .ref p ∧ y = .int i ∧ SqL X.K H2 p xs ∧ atI xs i = some v ∧ Q v H2) (hs : PlainIx c := by intro _ _; rfl) : eT X (.Subscript a c pos) σ H Q := we (pe_ix ix_list peT peT hs) h
theorem e_ixS (h : eT X a σ H fun x H1 => eT X c σ H1 fun y H2 => ∃ (z : Str) (i : Int) (k : Nat), x = .str z ∧ y = .int i ∧ z.length ≤ sizeLine ∧ atI z.cps.toList i = some k ∧ Q (.str ⟨#[k]⟩) H2) (hs : PlainIx c := by intro _ _; rfl) : eT X (.Subscript a c pos) σ H Q := we (pe_ix ix_str peT peT hs) h
theorem e_popQ (ho : XE X o σ H (.ref ad)) {ws : List V} (hl : H ad = some (.lst ws)) (h : ∀ H1, Ex H H1 → eT X e σ H1 fun v H2 => ∃ xs i k y, v = .int i ∧ H2 ad = some (.lst xs) ∧ -(2 ^ 63) ≤ i ∧ i < 2 ^ 63 ∧ seqIndex? i xs.length = some k ∧ xs[k]? = some y ∧ Q y (upd H2 ad (.lst (xs.eraseIdx k)))) (b : BMok X o "pop" apos e [] p2 := by exact ⟨rfl, rfl, rfl, rfl, rfl⟩) : eT X (.Call (.Attribute o "pop" apos) [e] [] p2) σ H Q :=
  we (b.pe PySem.F.plainAttrs_list PySem.F.slot_list_pop PySem.F.type_list_pop mt_popAt peT (pa_cons peT pa_nil b.hs)) (ho H (Ex.refl H) _ fun H1 e1 => ⟨.inl ⟨rfl, _, sq_of (e1 _ _ hl)⟩, fun pins s I => thn (h H1 e1 pins s I) fun u s1 ⟨v, H2, I2, r2, xs, i, k, y, ev, q⟩ => ⟨v, H2, I2, r2, ad, xs, i, k, y, rfl, by rw [ev], q⟩⟩)
theorem b_appQ (ho : XE X o σ H (.ref ad)) {ws : List V} (hl : H ad = some (.lst ws)) (h : ∀ H1, Ex H H1 → eT X c σ H1 fun v H2 => ∃ xs, H2 ad = some (.lst xs) ∧ xs.length < 100000 ∧ bT X rest D σ (upd H2 ad (.lst (xs ++ [v]))))
    (hs : swapsWith (.Call (.Attribute o "append" apos) [c] [] p2) none pos.line X.env = pure false := by rfl) (b : BMok X o "append" apos c [] p2 := by exact ⟨rfl, rfl, rfl, rfl, rfl⟩) :
    bT X (.Expr (.Call (.Attribute o "append" apos) [c] [] p2) pos :: rest) D σ H :=
  b_exprQ (we (b.pe PySem.F.plainAttrs_list PySem.F.slot_list_append PySem.F.type_list_append mt_append peT (pa_cons peT pa_nil b.hs)) (ho H (Ex.refl H) _ fun H1 e1 => ⟨.inl ⟨rfl, _, sq_of (e1 _ _ hl)⟩, fun pins s I => thn (h H1 e1 pins s I) fun u s1 ⟨v, H2, I2, r2, xs, h1, h2, h3⟩ => ⟨v, H2, I2, r2, ad, xs, v, rfl, rfl, h1, sz_lt h2, h3⟩⟩)) hs
theorem e_joinQ {s : Str} (ho : XE X o σ H (.str s)) (h : ∀ H1, Ex H H1 → eT X e σ H1 fun v H2 => ∃ (p : Addr) (ys : List Str), v = .ref p ∧ H2 p = some (.lst (ys.map V.str)) ∧ (ys.map (·.length)).sum + ys.length * s.length ≤ 16777216 ∧ Q (.str (Txt.join s ys)) H2)
    (hs : starEach [e] X.env = [(false, eval e X.env)] := by rfl) (hbase : attributeBase o "join" X.env (eval o X.env) = eval o X.env := by rfl) (hline : (apos.endLine == pos.line) = true := by rfl) : eT X (.Call (.Attribute o "join" apos) [e] [] pos) σ H Q :=
  we (pe_join peT peT hs hbase hline) (ho H (Ex.refl H) _ fun H1 e1 => ⟨⟨s, rfl⟩, fun pins t I => thn (h H1 e1 pins t I) fun u s1 ⟨v, H2, I2, r2, p, ys, ev, hy, hz, q⟩ => ⟨v, H2, I2, r2, s, p, ys, rfl, by rw [ev], .inl (sq_of hy), hz, q⟩⟩)
theorem e_mono {R : VK} (h : eT X e σ H Q) (i : ∀ v H', Q v H' → R v H') : eT X e σ H R := fun pins s I => thn (h pins s I) fun u s1 ⟨v, H1, I1, r1, q⟩ => ⟨v, H1, I1, r1, i v H1 q⟩
theorem e_ifQ (h : tT X d σ H fun b H1 => (b = true → eT X a σ H1 Q) ∧ (b = false → eT X c σ H1 Q)) : eT X (.IfExp d a c pos) σ H Q :=
  we (pe_ifExp ptT peT peT) fun pins s I => thn (h pins s I) fun b s1 ⟨H1, I1, h1, h2⟩ => ⟨H1, I1, by
    cases b with
    | true => rw [if_pos rfl]; exact h1 rfl
    | false => rw [if_neg Bool.false_ne_true]; exact h2 rfl⟩
/-- a, b = .., .. -/
theorem b_parQ (i j : Nat) {x y : Str} {a b : Expr} {px py pt pt2 : Pos} {kt k2 : Nat} (h : aT X [a, b] σ H fun vs H1 => ∃ v w, vs = [v, w] ∧ bT X rest D ((σ.set i (some v)).set j (some w)) H1) (hc : X.calm = true := by rfl) (hN : X.N.Nodup := by assumption) (hi : X.N[i]? = some x := by rfl) (hj : X.N[j]? = some y := by rfl) (hij : i ≠ j := by decide)
    (hx : X.env.scope.names.lookup x = some .local := by rfl) (hy : X.env.scope.names.lookup y = some .local := by rfl)
    (hw : swappedStores [.Tuple [.Name x px, .Name y py] kt pt] (.Tuple [a, b] k2 pt2) X.env = pure (some [x, y]) := by rfl) (hs : swapsWithSole [.Tuple [.Name x px, .Name y py] kt pt] (.Tuple [a, b] k2 pt2) pos.line X.env = pure false := by rfl) :
    bT X (.Assign [.Tuple [.Name x px, .Name y py] kt pt] (.Tuple [a, b] k2 pt2) pos :: rest) D σ H :=
  b_cons (ws (L2.ps_par hc hN hi hj hij hx hy paT hw hs) h)
/-- for over a list that is made with changes -/
theorem b_forQ {tg iter : Expr} {body : List Stmt} {g : TG} (hg : PG X tg g) (h : eT X iter σ H fun v H1 => ∃ (p : Addr) (xs : List V) (Pv : Nat → L2.St → Hp → Prop), v = .ref p ∧ Pv 0 σ H1 ∧ (∀ i σ' H', Pv i σ' H' → SqL X.K H' p xs) ∧
      (∀ i x σ' H', xs[i]? = some x → Pv i σ' H' → g x σ' H' fun σ2 H2 => bT X body (inLoop X rest D (Pv (i + 1))) σ2 H2) ∧ ∀ σ' H', Pv xs.length σ' H' → bT X rest D σ' H')
    (hp : PassesOwn (model X.prog X.w) X.A X.env X.xe := by exact PassesOwn.never) (hc : X.calm = true := by rfl) (hs : ∀ x, foldedSetIterable iter X.env x = pure x := by intro _; rfl) : bT X (.For tg iter body [] pos :: rest) D σ H :=
  b_cons (ws (ps_for hp hc (pi_list peT) hg pbT hs) (fun pins s I => thn (h pins s I) fun u s1 ⟨v, H1, I1, r1, p, xs, Pv, ev, h0, hl, hst, hd⟩ => ⟨v, H1, I1, r1, p, ev, ⟨xs, hl 0 σ H1 h0⟩, for_list Pv h0 (fun i σ' H' _ q => hl i σ' H' q) hst hd⟩))
/-- l[i:j] of a list, l[:j] -/
theorem e_slQ {lo hi : Expr} (h : eT X a σ H fun v H1 => eT X lo σ H1 fun x H2 => ∃ k : Int, x = .int k ∧ eT X hi σ H2 fun y H3 => ∃ k2 : Int, y = .int k2 ∧ ∃ ad xs, v = .ref ad ∧ SqL X.K H3 ad xs ∧ ∀ p, H3 p = none → Q (.ref p) (upd H3 p (.lst (cutV xs (some k) (some k2))))) : eT X (.Subscript a (.Slice (some lo) (some hi) none p2) pos) σ H Q :=
  we (pe_slice sl_list peT (po_some peT) (po_some peT)) h
theorem xl_slTo {hi : Expr} {xs : List V} {k : Nat} (ha : XE X a σ H (.ref ad)) (h : SqL X.K H ad xs) (hi' : XE X hi σ H (.int (k : Int))) : XL X (.Subscript a (.Slice none (some hi) none p2) pos) σ H (xs.take k) := by
  refine xl (pe_slice sl_list peT po_none (po_some peT)) fun H1 e1 Q q => ha H1 e1 _ fun H2 e2 => hi' H2 (e1.trans e2) _ fun H3 e3 => ?_
  refine ⟨(k : Int), rfl, ad, xs, rfl, ex_l ((e1.trans e2).trans e3) h, fun p hp => q p _ (fresh_back (e2.trans e3) hp) ((e2.trans e3).trans (Ex.new hp)) ?_⟩
  rw [upd_same]
  unfold cutV
  rw [HT.sIx_none, HT.sIx_nat, List.drop_zero, Nat.sub_zero, ← List.take_eq_take_min]
theorem e_l {xs : List V} (h : XL X a σ H xs) (k : ∀ p H1, H p = none → Ex H H1 → H1 p = some (.lst xs) → Q (.ref p) H1) : eT X a σ H Q := h H (Ex.refl H) Q k
theorem e_n {R : Addr → Hp → Prop} (h : XN X a σ H R) (k : ∀ p H1, H p = none → Ex H H1 → R p H1 → Q (.ref p) H1) : eT X a σ H Q := h H (Ex.refl H) Q k
theorem t_x {Q : Bool → Hp → Prop} {b : Bool} (h : XT X d σ H b) (k : ∀ H1, Ex H H1 → Q b H1) : tT X d σ H Q := h H (Ex.refl H) Q k
theorem e_tupQ {y1 : Nat} {es : List Expr} (h : aT X es σ H fun vs H1 => vs.length ≤ 100000 ∧ ∀ p, H1 p = none → Q (.ref p) (upd H1 p (.tup vs))) : eT X (.Tuple es y1 pos) σ H Q :=
  we (pe_tup paT) fun po pins s I => thn (h po pins s I) fun us s1 ⟨vs, H1, I1, r1, h1, h2⟩ => ⟨vs, H1, I1, r1, sz_of h1, h2⟩
end
end Lx
namespace Ls
open PySem PySem.Spec PyProof.Rows L2 Lx Ln
open Evl (Ex Ex.refl Ex.trans Ex.mut Ex.new Ev EvT EvL EvU EvA ex_l ex_t ex_rd sq_of st_of sz_of sz_lt fresh_back rv_I rv_I0)
section
variable {P : Program} {wd : World} {K : PySem.W.Frag} {mg : Str → Option Value} {base : Heap}
theorem Sm.dom {H : Hp} {st l : Addr} {n : Int} (s : Sm H st l n) : (H st = none → False) ∧ (H l = none → False) := by
  obtain ⟨xs, c, m, h1, h2, _⟩ := s.ex
  refine ⟨fun z => ?_, fun z => ?_⟩
  · rw [z] at h1
    cases h1
  · rw [z] at h2
    cases h2
theorem Sm.new {H : Hp} {st l : Addr} {n : Int} (s : Sm H st l n) {p : Addr} (h : H p = none) : p ≠ st ∧ p ≠ l := ⟨fun z => s.dom.1 (z ▸ h), fun z => s.dom.2 (z ▸ h)⟩
theorem Sm.upd {H : Hp} {st l : Addr} {n : Int} (s : Sm H st l n) {p : Addr} {o : HO} (h : p ≠ st ∧ p ≠ l) : Sm (L2.upd H p o) st l n := by
  obtain ⟨xs, c, m, h1, h2, h3⟩ := s.ex
  exact ⟨⟨xs, c, m, by rw [upd_ne (Ne.symm h.1)]; exact h1, by rw [upd_ne (Ne.symm h.2)]; exact h2, h3⟩, s.n0⟩
theorem Keep2.fresh {st l p : Addr} {H H' : Hp} {o : HO} (k : Keep2 st l H H') (h : H p = none) : Keep2 st l H (upd H' p o) := fun x u n1 n2 e => by
  rw [upd_ne (fun z => by rw [z, h] at e; cases e)]
  exact k x u n1 n2 e
theorem at_of {α : Type} {xs : List α} {i : Int} (h0 : 0 ≤ i) (h1 : i < xs.length) : ∃ v, atI xs i = some v ∧ v ∈ xs := by
  have hl : i.toNat < xs.length := by omega
  refine ⟨xs[i.toNat], ?_, List.getElem_mem hl⟩
  unfold atI ixN
  rw [if_pos h0, if_pos h1]
  show xs[i.toNat]? = _
  rw [List.getElem?_eq_getElem hl]
def spPick : Sp := fun vs H Q _ => ∃ st l n p xs, vs = [.ref st, .ref p] ∧ Sm H st l n ∧ H p = some (.lst xs) ∧ p ≠ st ∧ p ≠ l ∧ 0 < xs.length ∧ xs.length ≤ 1000 ∧ n ≤ 100000 ∧ ∀ v H', v ∈ xs → Keep2 st l H H' → Sm H' st l (n + 1) → Q v H'
theorem ok_pick (T : Tf K mg) : C8.Cal P wd K mg base 2 "_law_pick" spPick [] := by
  refine cal_of (N := ["_law_stream", "_law_things"]) T.d_law_pick (by decide +kernel) (fun vs H Q E ⟨st, l, n, p, xs, e, _⟩ => by rw [e]; rfl) fun f cdv A outer s H vs Q E hr nd h => ?_
  obtain ⟨st, l, n, p, xs, rfl, hS, hp, n1, n2, l0, l1, hn, q⟩ := h
  refine b_retQ (e_ixL (e_x (x_var 1) fun H1 e1 => e_call (ok_draw T) hr (a_cons (e_x (x_var 0) fun H2 e2 => a_cons (e_x (x_lenL T.b_len (x_var 1) (sq_of ((e1.trans e2) _ _ hp))) fun H3 e3 => a_nil ?_)))))
  have e13 := (e1.trans e2).trans e3
  refine ⟨st, l, n, _, rfl, hS.keep e13, by omega, by omega, hn, fun r H4 r0 r1 k4 s4 => ?_⟩
  obtain ⟨v, hv, hm⟩ := at_of r0 r1
  exact ⟨p, xs, r, v, rfl, rfl, sq_of (k4 _ _ n1 n2 (e13 _ _ hp)), hv, q v H4 hm ((Keep2.of_ex e13).trans k4) s4⟩
def spMix (K : PySem.W.Frag) : Sp := fun vs H Q _ => ∃ st l n p xs, vs = [.ref st, .ref p] ∧ Sm H st l n ∧ SqL K H p xs ∧ xs.length ≤ 500 ∧ n + 500 ≤ 100000 ∧ ∀ r ys H', H r = none → Keep2 st l H H' → Sm H' st l (n + xs.length) → H' r = some (.lst ys) → ys.length = xs.length → (∀ y ∈ ys, y ∈ xs) → Q (.ref r) H'
theorem ok_mixed (T : Tf K mg) : C8.Cal P wd K mg base 2 "_law_mixed" (spMix K) [] := by
  refine cal_of (N := ["_law_stream", "_law_things", "_law_left", "_law_k"]) T.d_law_mixed (by decide +kernel) (fun vs H Q E ⟨st, l, n, p, xs, e, _⟩ => by rw [e]; rfl) fun f cdv A outer s H vs Q E hr nd h => ?_
  obtain ⟨st, l, n, p, xs, rfl, hS, hx, lx, hn, q⟩ := h
  refine b_setN 2 (xn_l (xl_listOf T.b_list (x_var 1) (.inl hx))) fun qa H1 q0 e1 hq => ?_
  have S1 := hS.keep e1
  have nq := hS.new q0
  refine b_retQ (e_lcR 3 T.b_range (e_x (x_lenL T.b_len (x_var 2) (sq_of hq)) fun H2 e2 => ⟨xs.length, rfl, by omega, fun D hD => ⟨fun i H' => ∃ ys zs, H' qa = some (.lst zs) ∧ H' D = some (.lst ys) ∧ Sm H' st l (n + i) ∧ Keep2 st l H H' ∧ ys.length = i ∧ zs.length + i = xs.length ∧ (∀ y ∈ ys, y ∈ xs) ∧ ∀ z ∈ zs, z ∈ xs, ?_, ?_, ?_⟩⟩))
  all_goals have S2 := S1.keep e2
  all_goals have nD := S2.new hD
  all_goals have Dq : D ≠ qa := fun z => by rw [z, e2 _ _ hq] at hD; cases hD
  all_goals have hD0 : H D = none := fresh_back (e1.trans e2) hD
  · refine ⟨[], xs, by rw [upd_ne (Ne.symm Dq)]; exact e2 _ _ hq, upd_same, ?_, (Keep2.of_ex (e1.trans e2)).fresh hD0, rfl, by omega, (fun y h => nomatch h), fun z h => h⟩
    have := S2.upd (o := .lst []) nD
    rw [show n + ((0 : Nat) : Int) = n by omega]
    exact this
  · rintro i H' hi ⟨ys, zs, h1, h2, h3, h4, h5, h6, h7, h8⟩ s0 H0 C cl fp
    refine e_popQ (x_var 2) h1 fun H3 e3 => e_call (ok_draw T) hr (a_cons (e_x (x_var 0) fun H4 e4 => a_cons (e_x (x_lenL T.b_len (x_var 2) (sq_of ((e3.trans e4) _ _ h1))) fun H5 e5 => a_nil ?_)))
    have e35 := (e3.trans e4).trans e5
    refine ⟨st, l, n + i, _, rfl, h3.keep e35, by omega, by omega, by omega, fun r H6 r0 r1 k6 s6 => ?_⟩
    have hz6 := k6 _ _ nq.1 nq.2 (e35 _ _ h1)
    have hr2 : r.toNat < zs.length := by omega
    refine ⟨zs, r, r.toNat, zs[r.toNat], rfl, hz6, by omega, by omega, seqIndex_of r0 (by omega), List.getElem?_eq_getElem hr2, ys, by rw [upd_ne Dq]; exact k6 _ _ nD.1 nD.2 (e35 _ _ h2), by omega, ys ++ [zs[r.toNat]], zs.eraseIdx r.toNat, by rw [upd_ne (Ne.symm Dq)]; exact upd_same, upd_same, ?_, ((h4.trans ((Keep2.of_ex e35).trans k6)).fresh q0).fresh hD0, by rw [List.length_append, List.length_singleton, h5], by rw [List.length_eraseIdx_of_lt hr2]; omega, fun y hy => ?_, fun z hz => h8 z (List.mem_of_mem_eraseIdx hz)⟩
    · have := (s6.upd (o := .lst (zs.eraseIdx r.toNat)) nq).upd (o := .lst (ys ++ [zs[r.toNat]])) nD
      rw [show n + (((i + 1 : Nat)) : Int) = n + i + 1 by omega]
      exact this
    · rcases List.mem_append.mp hy with hy | hy
      · exact h7 y hy
      · rw [List.mem_singleton.mp hy]
        exact h8 _ (List.getElem_mem hr2)
  · rintro H' ⟨ys, zs, h1, h2, h3, h4, h5, h6, h7, h8⟩
    exact q D ys H' hD0 h4 h3 h2 h5 h7
end
end Ls
/-! LsD4 -/
set_option Elab.async false
set_option linter.all false
set_option maxRecDepth 100000
namespace Ls
open PySem PySem.Spec PyProof.Rows L2 Lx Ln
open Evl (Ex Ex.refl Ex.trans Ex.mut Ex.new Ev EvT EvL EvU EvA ex_l ex_t ex_rd sq_of st_of sz_of sz_lt fresh_back rv_I rv_I0)
section
variable {P : Program} {wd : World} {K : PySem.W.Frag} {mg : Str → Option Value} {base : Heap}
def sgs (cs : List Nat) : List Str := cs.map fun c => ⟨#[c]⟩
theorem join_sgs : ∀ cs : List Nat, (Txt.join "" (sgs cs)).cps.toList = cs := fun cs => by
  rw [eq_of_beq (PyProof.Rows.join_plain_closes "" (sgs cs))]
  induction cs with
  | nil => rfl
  | cons c cs ih =>
    show (Str.join ⟨#[]⟩ (⟨#[c]⟩ :: sgs cs)).cps.toList = _
    rw [PyProof.Rows.join_nil_cons]
    have ih : (Str.join ⟨#[]⟩ (sgs cs)).cps.toList = cs := ih
    show ((⟨#[c]⟩ : Str).cps ++ (Str.join ⟨#[]⟩ (sgs cs)).cps).toList = _
    rw [Array.toList_append, ih]
    rfl
theorem sgs_sum : ∀ cs : List Nat, ((sgs cs).map (·.length)).sum = cs.length
  | [] => rfl
  | c :: cs => by
    show 1 + ((sgs cs).map (·.length)).sum = cs.length + 1
    rw [sgs_sum cs, Nat.add_comm]
def pkWords : List Str := ["kind", "open", "column", "from", "to", "check", "fall", "clear", "lone", "fresh", "put", "turn", "fell", "spread", "stuck", "again", "bare", "hold"]
def qNames : List Str := letters.cps.toList.map fun c => ("q" : Str) ++ ⟨#[c]⟩
theorem nameOk_by {s : Str} (h : (decide (1 ≤ s.length) && (decide (s.length ≤ 8) && (!decide (s = "strike") && s.cps.toList.all fun c => decide (c ∈ letters.cps.toList)))) = true) : NameOk s := by
  simp only [Bool.and_eq_true, decide_eq_true_eq, Bool.not_eq_true', decide_eq_false_iff_not, List.all_eq_true] at h
  exact ⟨h.1, h.2.1, h.2.2.1, fun c hc => h.2.2.2 c hc⟩
theorem x_sc {X : Cx} {rest : List Expr} {σ : L2.St} {H : Hp} {vs : List V} {s : Str} {k : Nat} {p : Pos} (h2 : XA X rest σ H vs) : XA X (.Constant (.str s) k p :: rest) σ H (.str s :: vs) := x_acons x_str h2 (by rfl)
theorem pk_ok : ∀ s ∈ pkWords, NameOk s := fun s hs => nameOk_by (by
  have : pkWords.all (fun s => decide (1 ≤ s.length) && (decide (s.length ≤ 8) && (!decide (s = "strike") && s.cps.toList.all fun c => decide (c ∈ letters.cps.toList)))) = true := by decide +kernel
  exact List.all_eq_true.mp this s hs)
theorem qn_ok : ∀ s ∈ qNames, NameOk s := fun s hs => nameOk_by (by
  have : qNames.all (fun s => decide (1 ≤ s.length) && (decide (s.length ≤ 8) && (!decide (s = "strike") && s.cps.toList.all fun c => decide (c ∈ letters.cps.toList)))) = true := by decide +kernel
  exact List.all_eq_true.mp this s hs)
theorem qn_nd : qNames.Nodup := by decide +kernel
def spFr : Sp := fun vs H Q _ => ∃ (st l : Addr) (n : Int) (p : Addr) (ts : List Str), vs = [.ref st, .ref p] ∧ Sm H st l n ∧ H p = some (.lst (ts.map V.str)) ∧ p ≠ st ∧ p ≠ l ∧ ts.length ≤ 20 ∧ n ≤ 90000 ∧ ∀ s n' H', NameOk s → s ∉ ts → Keep2 st l H H' → n ≤ n' → n' ≤ n + 20 → Sm H' st l n' → Q (.str s) H'
theorem k2_back {st l D : Addr} {H H' : Hp} (k : Keep2 st l H H') (n : D ≠ st ∧ D ≠ l) (hD : H' D = none) : H D = none := by
  cases z : H D with
  | none => rfl
  | some o => rw [k _ _ n.1 n.2 z] at hD; cases hD
/-- what draws make is no name only if it is the word of a strike -/
theorem nameOk_of {s : Str} {cs : List Nat} (e : s.cps.toList = cs) (h1 : 1 ≤ cs.length) (h8 : cs.length ≤ 8) (hc : ∀ c ∈ cs, c ∈ letters.cps.toList) (ns : s ≠ "strike") : NameOk s := by
  have hl : s.length = cs.length := by rw [← e, Array.length_toList]; rfl
  exact ⟨by rw [hl]; exact h1, by rw [hl]; exact h8, ns, fun c h => hc c (by rw [← e]; exact h)⟩
theorem q_left {ts : List Str} (h : ts.length ≤ 20) : ∃ s r, (qNames.filter fun s => !decide (s ∈ ts)) = s :: r ∧ NameOk s ∧ s ∉ ts := by
  cases z : (qNames.filter fun s => !decide (s ∈ ts)) with
  | nil =>
    have : ∀ s ∈ qNames, s ∈ ts := fun s hs => by
      have := List.filter_eq_nil_iff.mp z s hs
      simpa using this
    have := nd_le qn_nd this
    have e : qNames.length = 26 := by decide +kernel
    omega
  | cons s r =>
    have hm : s ∈ (qNames.filter fun s => !decide (s ∈ ts)) := by rw [z]; exact List.mem_cons_self
    obtain ⟨h1, h2⟩ := List.mem_filter.mp hm
    exact ⟨s, r, rfl, qn_ok s h1, by simpa using h2⟩
def SL (s : Str) : Prop := s ≠ "strike" → NameOk s
abbrev cxFr (P : Program) (wd : World) (K : PySem.W.Frag) (mg : Str → Option Value) (base : Heap) (f : Addr) (cdv : Value) (A : Around) (outer : List Env) (s : Shared) (H : Hp) (E : XK) : Cx := (cxOf C8.CX0 P wd K mg base ["_law_stream", "_law_taken", "_law_letters", "_law_words", "_law_name", "_law_k", "_law_one", "_law_sign"] "_law_fresh" (C8.fnScope (top 91)) f cdv A outer s H E).nox
set_option maxHeartbeats 2000000 in
theorem lf_rest (T : Tf K mg) {f : Addr} {cdv : Value} {A : Around} {outer : List Env} {s : Shared} {H0 H H2 : Hp} {E : XK} {Q : VK} {st l p w2 : Addr} {n : Int} {ts : List Str} (hr : Room 1 (A.deeper (envOfC "_law_fresh" (C8.fnScope (top 91)) s.heap.objs.size f cdv))) (nd : (["_law_stream", "_law_taken", "_law_letters", "_law_words", "_law_name", "_law_k", "_law_one", "_law_sign"] : List Str).Nodup)
    (e12 : Ex H H2) (hS : Sm H st l n) (hp : H p = some (.lst (ts.map V.str))) (np1 : p ≠ st) (np2 : p ≠ l) (lts : ts.length ≤ 20) (hn : n ≤ 90000) (nw2 : w2 ≠ st ∧ w2 ≠ l) (hw2 : H2 w2 = some (.lst (pkWords.map V.str)))
    (q : ∀ s n' H', NameOk s → s ∉ ts → Keep2 st l H H' → n ≤ n' → n' ≤ n + 20 → Sm H' st l n' → Q (.str s) H') :
    bT (cxFr P wd K mg base f cdv A outer s H0 E) ((C8.fnBody (top 91)).drop 2) { nx := fun _ H' => Q .non H', rt := Q } [some (.ref st), some (.ref p), some (.str letters), some (.ref w2), none, none, none, none] H2 := by
  have S2 := hS.keep e12
  have hp2 := e12 _ _ hp
  have K2 : Keep2 st l H H2 := Keep2.of_ex e12
  have lt26 : letters.cps.toList.length = 26 := by decide +kernel
  have lle : letters.length ≤ sizeLine := by decide +kernel
  -- the join
  refine b_setQ 4 (e_mono (Q := fun v H' => ∃ s0 n', v = V.str s0 ∧ SL s0 ∧ Keep2 st l H2 H' ∧ Sm H' st l n' ∧ n ≤ n' ∧ n' ≤ n + 9) ?_ ?_)
  · refine e_joinQ x_str fun H3 e3 => e_lcR 5 T.b_range (e_op op_add (e_x x_int fun H4 e4 => e_call (ok_draw T) hr (a_cons (e_x (x_var 0) fun H5 e5 => a_cons (e_x x_int fun H6 e6 => a_nil ⟨st, l, n, 8, rfl, S2.keep (((e3.trans e4).trans e5).trans e6), by decide, by decide, by omega, fun r H7 r0 r1 k7 s7 => ⟨1, r, rfl, rfl, (1 + r).toNat, by show V.int (1 + r) = V.int (((1 + r).toNat : Nat) : Int); rw [show (((1 + r).toNat : Nat) : Int) = 1 + r by omega], by omega, fun D hD => ⟨fun i H' => ∃ cs : List Nat, H' D = some (.lst ((sgs cs).map V.str)) ∧ cs.length = i ∧ (∀ c ∈ cs, c ∈ letters.cps.toList) ∧ Keep2 st l H2 H' ∧ Sm H' st l (n + 1 + i), ?_, ?_, ?_⟩⟩⟩)))))
    all_goals have k27 : Keep2 st l H2 H7 := (Keep2.of_ex (((e3.trans e4).trans e5).trans e6)).trans k7
    all_goals have nD := s7.new hD
    all_goals have D2 : H2 D = none := k2_back k27 nD hD
    · exact ⟨[], upd_same, rfl, (fun c h => nomatch h), k27.fresh D2, by
        have := s7.upd (o := .lst []) nD
        rw [show n + 1 + ((0 : Nat) : Int) = n + 1 by omega]
        exact this⟩
    · rintro i H' hi ⟨cs, h1, h2, h3, h4, h5⟩ s0 H0 C cl fp
      refine e_ixS (e_x (x_var 2) fun H8 e8 => e_call (ok_draw T) hr (a_cons (e_x (x_var 0) fun H9 e9 => a_cons (e_x x_int fun H10 e10 => a_nil ⟨st, l, n + 1 + i, 26, rfl, h5.keep ((e8.trans e9).trans e10), by decide, by decide, by omega, fun r H11 r0 r1 k11 s11 => ?_⟩))))
      obtain ⟨c, hc, hm⟩ := at_of (xs := letters.cps.toList) r0 (by rw [lt26]; exact r1)
      have hD11 := k11 _ _ nD.1 nD.2 (((e8.trans e9).trans e10) _ _ h1)
      refine ⟨letters, r, c, rfl, rfl, lle, hc, (sgs cs).map V.str, hD11, by rw [List.length_map]; unfold sgs; rw [List.length_map]; omega, cs ++ [c], by rw [upd_same]; unfold sgs; rw [List.map_append, List.map_append] <;> rfl, by rw [List.length_append, List.length_singleton, h2], fun c' h' => ?_, (h4.trans ((Keep2.of_ex ((e8.trans e9).trans e10)).trans k11)).fresh D2, ?_⟩
      · rcases List.mem_append.mp h' with h' | h'
        · exact h3 c' h'
        · rw [List.mem_singleton.mp h']
          exact hm
      · have := s11.upd (o := .lst ((sgs cs).map V.str ++ [V.str ⟨#[c]⟩])) nD
        rw [show n + 1 + ((i + 1 : Nat) : Int) = n + 1 + i + 1 by omega]
        exact this
    · rintro H' ⟨cs, h1, h2, h3, h4, h5⟩
      refine ⟨D, sgs cs, rfl, h1, ?_, _, _, rfl, fun ns => nameOk_of (join_sgs cs) (by omega) (by omega) h3 ns, h4, h5, by omega, by omega⟩
      rw [sgs_sum]
      have : ("" : Str).length = 0 := rfl
      rw [this]
      omega
  rintro v H' ⟨s0, n3, rfl, hs0, h4, h5, ln3, ln3'⟩
  have hw' := h4 _ _ nw2.1 nw2.2 hw2
  have hp' := h4 _ _ np1 np2 hp2
  -- the word
  refine b_setQ 4 (e_mono (Q := fun v H12 => ∃ s1 n', v = V.str s1 ∧ SL s1 ∧ Keep2 st l H' H12 ∧ Sm H12 st l n' ∧ n ≤ n' ∧ n' ≤ n + 20) ?_ ?_)
  · refine e_ifQ (tt_cmp op_eq (e_call (ok_draw T) hr (a_cons (e_x (x_var 0) fun H8 e8 => a_cons (e_x x_int fun H9 e9 => a_nil ⟨st, l, _, 8, rfl, h5.keep (e8.trans e9), by decide, by decide, by omega, fun r1 H10 r10 r11 k10 s10 => e_x x_int fun H11 e11 => ⟨rfl, _, rfl, ?_⟩⟩)))) (nomark _))
    have k11 : Keep2 st l H' H11 := ((Keep2.of_ex (e8.trans e9)).trans k10).trans (Keep2.of_ex e11)
    have S11 := s10.keep e11
    refine ⟨fun hb => e_ixL (e_x (x_var 3) fun H12 e12 => e_call (ok_draw T) hr (a_cons (e_x (x_var 0) fun H13 e13 => a_cons (e_x x_int fun H14 e14 => a_nil ⟨st, l, _, 18, rfl, S11.keep ((e12.trans e13).trans e14), by decide, by decide, by omega, fun r2 H15 r20 r21 k15 s15 => ?_⟩)))), fun hb => e_x (x_var 4) fun H12 e12 => ?_⟩
    · have k15' : Keep2 st l H' H15 := (k11.trans (Keep2.of_ex ((e12.trans e13).trans e14))).trans k15
      obtain ⟨v, hv, hm⟩ := at_of (xs := pkWords.map V.str) r20 (by rw [List.length_map]; exact r21)
      obtain ⟨sv, hsv, rfl⟩ := List.mem_map.mp hm
      exact ⟨w2, _, r2, _, rfl, rfl, sq_of (k15' _ _ nw2.1 nw2.2 hw'), hv, sv, _, rfl, fun _ => pk_ok sv hsv, k15', s15, by omega, by omega⟩
    · exact ⟨s0, _, rfl, hs0, k11.trans (Keep2.of_ex e12), S11.keep e12, by omega, by omega⟩
  rintro v H12 ⟨s1, n1, rfl, hs1, k12, s12, l1, l2⟩
  have kH : Keep2 st l H H12 := (K2.trans h4).trans k12
  refine b_if (b := decide (s1 ∈ ts) || decide (s1 = "strike")) (t_w (w_or (t_inS (x_var 4) (x_var 1) (sq_of (k12 _ _ np1 np2 hp'))) fun _ => w_or1 (t_eqS (x_var 4) x_str))) (fun hb H13 e13 => ?_) fun hb H13 e13 => b_nil (b_ret (x_var 4) fun H14 e14 => ?_)
  · obtain ⟨sq, rq, eq, okq, nq⟩ := q_left lts
    have hp13 := e13 _ _ (k12 _ _ np1 np2 hp')
    refine b_ret (x_ixN (xs := (qNames.filter fun s => !decide (s ∈ ts)).map V.str) (x_lcE (rp := V.str) (as := qNames) 6 (fun s => !decide (s ∈ ts)) V.str (src_nl (xl_is (x_lcE (rp := fun c => V.str ⟨#[c]⟩) (as := letters.cps.toList) 7 (fun _ => true) (fun c => V.str (("q" : Str) ++ ⟨#[c]⟩)) (src_s (x_var 2)) (by rw [lt26]; decide) fun c H14 hc e14 sh H0 C cl fp => ⟨ts_nil, fun _ => x_adds x_str (x_var 7) (by show 1 + 1 ≤ 100000; decide)⟩) (by rw [filter_yes]; unfold qNames; rw [List.map_map] <;> rfl))) (by decide +kernel) fun s2 H14 hs2 e14 sh H0 C cl fp => ⟨ts_one (t_niS (x_var 6) (x_var 1) (sq_of (e14 _ _ hp13))), fun _ => x_var 6⟩) x_int (v := .str sq) (by rw [eq]; exact at_0 _ _)) fun H14 e14 => q sq n1 H14 okq nq ((kH.trans (Keep2.of_ex e13)).trans (Keep2.of_ex e14)) l1 l2 (s12.keep (e13.trans e14))
  · rw [Bool.or_eq_false_iff] at hb
    exact q s1 n1 H14 (hs1 (of_decide_eq_false hb.2)) (of_decide_eq_false hb.1) ((kH.trans (Keep2.of_ex e13)).trans (Keep2.of_ex e14)) l1 l2 (s12.keep (e13.trans e14))
end
end Ls
/-! LsD5 -/
set_option Elab.async false
set_option linter.all false
set_option maxRecDepth 100000
namespace Ls
open PySem PySem.Spec PyProof.Rows L2 Lx Ln
open Evl (Ex Ex.refl Ex.trans Ex.mut Ex.new Ev EvT EvL EvU EvA ex_l ex_t ex_rd sq_of st_of sz_of sz_lt fresh_back rv_I rv_I0)
section
variable {P : Program} {wd : World} {K : PySem.W.Frag} {mg : Str → Option Value} {base : Heap}
set_option maxHeartbeats 2000000 in
theorem ok_lfresh (T : Tf K mg) : C8.Cal P wd K mg base 2 "_law_fresh" spFr [] := by
  refine cal_of (N := ["_law_stream", "_law_taken", "_law_letters", "_law_words", "_law_name", "_law_k", "_law_one", "_law_sign"]) T.d_law_fresh (by decide +kernel) (fun vs H Q E ⟨st, l, n, p, ts, e, _⟩ => by rw [e]; rfl) fun f cdv A outer s H vs Q E hr nd h => ?_
  obtain ⟨st, l, n, p, ts, rfl, hS, hp, np1, np2, lts, hn, q⟩ := h
  refine b_asg (xp_tup (R := fun vs H => ∃ r, vs = V.str letters :: r ∧ ∃ v r2, r = v :: r2 ∧ (∃ w, v = V.ref w ∧ H w = some (.lst ((["kind", "open", "column", "from", "to", "check", "fall"] : List Str).map V.str))) ∧ r2 = []) (xap_x x_str (xap_cons (P := fun v H => ∃ w, v = V.ref w ∧ H w = some (.lst ((["kind", "open", "column", "from", "to", "check", "fall"] : List Str).map V.str))) (R := fun r _ => r = []) (xp_n (xn_l (x_lst (x_sc (x_sc (x_sc (x_sc (x_sc (x_sc (x_sc x_anil))))))) (by show 7 ≤ 100000; decide)))) (xap_e x_anil) fun v H1 H2 e ⟨w, h1, h2⟩ => ⟨w, h1, e _ _ h2⟩)) (fun vs H ⟨r, h1, v, r2, h2, _, h3⟩ => by rw [h1, h2, h3]; show 2 ≤ 100000; decide) fun vs H1 H2 e ⟨r, h1, v, r2, h2, ⟨w, h3, h4⟩, h5⟩ => ⟨r, h1, v, r2, h2, ⟨w, h3, e _ _ h4⟩, h5⟩) (pg_tup rfl (pgs_cons (pg_name (i := 2) nd rfl (.inr rfl)) (pgs_cons (pg_name (i := 3) nd rfl (.inl rfl)) pgs_nil))) fun v H1 e1 ⟨pt, vs, ev, hpt, r, h1, v2, r2, h2, ⟨w, h3, hw⟩, h4⟩ => ?_
  subst ev h1 h2 h3 h4
  refine ⟨pt, _, rfl, st_of hpt, rfl, _, _, rfl, _, _, rfl, rfl, ?_⟩
  refine b_setN 3 (xn_catN (x_var 3) (x_lst (x_sc (x_sc (x_sc (x_sc (x_sc (x_sc (x_sc (x_sc (x_sc (x_sc (x_sc x_anil))))))))))) (by show 11 ≤ 100000; decide)) hw (by show 7 + 11 ≤ 100000; decide)) fun w2 H2 w20 e2 hw2 => ?_
  have hw2 : H2 w2 = some (.lst (pkWords.map V.str)) := hw2
  have e12 := e1.trans e2
  have nw2 : w2 ≠ st ∧ w2 ≠ l := (hS.keep e1).new w20
  exact lf_rest T hr nd e12 hS hp np1 np2 lts hn nw2 hw2 q
end
end Ls
/-! LsD6 -/
set_option Elab.async false
set_option linter.all false
set_option maxRecDepth 100000
namespace Ls
open PySem PySem.Spec PyProof.Rows L2 Lx Ln
open Evl (Ex Ex.refl Ex.trans Ex.mut Ex.new Ev EvT EvL EvU EvA ex_l ex_t ex_rd sq_of st_of sz_of sz_lt fresh_back rv_I rv_I0)
section
variable {P : Program} {wd : World} {K : PySem.W.Frag} {mg : Str → Option Value} {base : Heap}
def spNm : Sp := fun vs H Q _ => ∃ (st l : Addr) (n : Int) (m : Nat), vs = [.ref st, .int (m : Int)] ∧ Sm H st l n ∧ m ≤ 10 ∧ n ≤ 80000 ∧ ∀ (r : Addr) (ss : List Str) (n' : Int) (H' : Hp), H r = none → Keep2 st l H H' → Sm H' st l n' → n ≤ n' → n' ≤ n + 20 * m → H' r = some (.lst (ss.map V.str)) → ss.length = m → ss.Nodup → (∀ s ∈ ss, NameOk s) → Q (.ref r) H'
theorem ok_lnames (T : Tf K mg) : C8.Cal P wd K mg base 3 "_law_names" spNm [] := by
  refine cal_of (N := ["_law_stream", "_law_many", "_law_found", "_law_k"]) T.d_law_names (by decide +kernel) (fun vs H Q E ⟨st, l, n, m, e, _⟩ => by rw [e]; rfl) fun f cdv A outer s H vs Q E hr nd h => ?_
  obtain ⟨st, l, n, m, rfl, hS, hm, hn, q⟩ := h
  refine b_setN 2 (xn_l (x_lst x_anil)) fun r H1 r0 e1 hr1 => ?_
  have nr := hS.new r0
  refine b_forR T.b_range (x_var 1) (by omega) (pg_name (i := 3) nd rfl (.inl rfl)) (fun i σ' H' => ∃ (x3 : Option V) (ss : List Str) (n' : Int), σ' = [some (.ref st), some (.int (m : Int)), some (.ref r), x3] ∧ Keep2 st l H H' ∧ H' r = some (.lst (ss.map V.str)) ∧ ss.length = i ∧ ss.Nodup ∧ (∀ s ∈ ss, NameOk s) ∧ Sm H' st l n' ∧ n ≤ n' ∧ n' ≤ n + 20 * i) (fun H2 e2 => ⟨none, [], n, rfl, Keep2.of_ex (e1.trans e2), e2 _ _ hr1, rfl, List.nodup_nil, (fun s h => nomatch h), hS.keep (e1.trans e2), by omega, by omega⟩) ?_ ?_
  · rintro i σ' H2 hi ⟨x3, ss, n', rfl, k2, h2, l2, nd2, ok2, s2, b1, b2⟩
    refine b_appQ (x_var 2) h2 fun H3 e3 => e_call (ok_lfresh T) hr (a_cons (e_x (x_var 0) fun H4 e4 => a_cons (e_x (x_var 2) fun H5 e5 => a_nil ⟨st, l, n', r, ss, rfl, s2.keep ((e3.trans e4).trans e5), ((e3.trans e4).trans e5) _ _ h2, nr.1, nr.2, by omega, by omega, fun s1 n1 H6 ok1 ns k6 c1 c2 s6 => ⟨ss.map V.str, k6 _ _ nr.1 nr.2 (((e3.trans e4).trans e5) _ _ h2), by rw [List.length_map]; omega, b_nil ⟨_, ss ++ [s1], n1, rfl, (k2.trans ((Keep2.of_ex ((e3.trans e4).trans e5)).trans k6)).fresh r0, by rw [upd_same, List.map_append] <;> rfl, by rw [List.length_append, List.length_singleton, l2], List.nodup_append.mpr ⟨nd2, by simp, fun x hx y hy e => ns (by rw [show y = s1 by simpa using hy] at e; rw [← e]; exact hx)⟩, fun s hs => ?_, s6.upd nr, by omega, by omega⟩⟩⟩)))
    rcases List.mem_append.mp hs with hs | hs
    · exact ok2 s hs
    · rw [List.mem_singleton.mp hs]
      exact ok1
  · rintro σ' H2 ⟨x3, ss, n', rfl, k2, h2, l2, nd2, ok2, s2, b1, b2⟩
    exact b_ret (x_var 2) fun H3 e3 => q r ss n' H3 r0 (k2.trans (Keep2.of_ex e3)) (s2.keep e3) b1 (by omega) (e3 _ _ h2) (by omega) nd2 ok2
/-! ### the law's own book -/
structure LbA where
  bb : Addr
  a : Addr
  b : Addr
  c : Addr
  kv : List V
  cv : List V
def lbD (L : LbA) : List (Key × V) := [(Sum.inr "kinds", .ref L.a), (Sum.inr "columns", .ref L.b), (Sum.inr "checks", .ref L.c)]
structure LbAt (st l : Addr) (L : LbA) (B : Bk) (cs : List Str) (H : Hp) : Prop where
  hb : H L.bb = some (.dK (lbD L))
  ha : H L.a = some (.lst L.kv)
  hk : Paired (fun v k => ∃ p, v = V.ref p ∧ H p = some (.tup (kindT k))) L.kv B.kinds
  hcl : H L.b = some (.lst L.cv)
  hc : PairsR RowR L.cv B.cols H
  hs : H L.c = some (.lst (cs.map V.str))
  na : L.a ≠ st ∧ L.a ≠ l
  nb : L.b ≠ st ∧ L.b ≠ l
  nc : L.c ≠ st ∧ L.c ≠ l
theorem LbAt.ex {st l : Addr} {L : LbA} {B : Bk} {cs : List Str} {H H' : Hp} (h : LbAt st l L B cs H) (e : Ex H H') : LbAt st l L B cs H' :=
  ⟨e _ _ h.hb, e _ _ h.ha, Paired.mapP h.hk fun v k ⟨p, h1, h2⟩ => ⟨p, h1, e _ _ h2⟩, e _ _ h.hcl, h.hc.ex stb_row e, e _ _ h.hs, h.na, h.nb, h.nc⟩
theorem LbAt.extN {st l : Addr} {L : LbA} {B : Bk} {cs : List Str} {H H' : Hp} (h : LbAt st l L B cs H) (e : LamX.ExtN H H') : LbAt st l L B cs H' :=
  ⟨e _ _ h.hb (fun _ z => nomatch z), e _ _ h.ha (fun _ z => nomatch z), Paired.mapP h.hk fun v k ⟨p, h1, h2⟩ => ⟨p, h1, e _ _ h2 (fun _ z => nomatch z)⟩, e _ _ h.hcl (fun _ z => nomatch z), Paired.mapP h.hc fun v k ⟨p, h1, h2⟩ => ⟨p, h1, e _ _ h2 (fun _ z => nomatch z)⟩, e _ _ h.hs (fun _ z => nomatch z), h.na, h.nb, h.nc⟩
theorem Sm.tup {H : Hp} {st l : Addr} {n : Int} (s : Sm H st l n) {p : Addr} {ts : List V} (h : H p = some (.tup ts)) : p ≠ st ∧ p ≠ l := by
  obtain ⟨xs, c, m, h1, h2, _⟩ := s.ex
  exact ⟨(fun z => by rw [z, h1] at h; cases h), (fun z => by rw [z, h2] at h; cases h)⟩
theorem Sm.dK {H : Hp} {st l : Addr} {n : Int} (s : Sm H st l n) {p : Addr} {ts : List (Key × V)} (h : H p = some (.dK ts)) : p ≠ st ∧ p ≠ l := by
  obtain ⟨xs, c, m, h1, h2, _⟩ := s.ex
  exact ⟨(fun z => by rw [z, h1] at h; cases h), (fun z => by rw [z, h2] at h; cases h)⟩
theorem Sm.ins {H : Hp} {st l : Addr} {n : Int} (s : Sm H st l n) {p C dx : Addr} {fs : List (Str × V)} (h : H p = some (.ins C dx fs)) : p ≠ st ∧ p ≠ l := by
  obtain ⟨xs, c, m, h1, h2, _⟩ := s.ex
  exact ⟨(fun z => by rw [z, h1] at h; cases h), (fun z => by rw [z, h2] at h; cases h)⟩
theorem LbAt.k2 {st l : Addr} {L : LbA} {B : Bk} {cs : List Str} {H H' : Hp} {n : Int} (h : LbAt st l L B cs H) (s : Sm H st l n) (k : Keep2 st l H H') : LbAt st l L B cs H' :=
  ⟨k _ _ (s.dK h.hb).1 (s.dK h.hb).2 h.hb, k _ _ h.na.1 h.na.2 h.ha, Paired.mapP h.hk fun v q ⟨p, h1, h2⟩ => ⟨p, h1, k _ _ (s.tup h2).1 (s.tup h2).2 h2⟩, k _ _ h.nb.1 h.nb.2 h.hcl, Paired.mapP h.hc fun v q ⟨p, h1, h2⟩ => ⟨p, h1, k _ _ (s.tup h2).1 (s.tup h2).2 h2⟩, k _ _ h.nc.1 h.nc.2 h.hs, h.na, h.nb, h.nc⟩
theorem rows_k2 {st l : Addr} {cv : List V} {cols : List Col} {H H' : Hp} {n : Int} (h : PairsR RowR cv cols H) (s : Sm H st l n) (k : Keep2 st l H H') : PairsR RowR cv cols H' := Paired.mapP h fun v q ⟨p, h1, h2⟩ => ⟨p, h1, k _ _ (s.tup h2).1 (s.tup h2).2 h2⟩
theorem kinds_k2 {st l : Addr} {kv : List V} {ks : List (Str × Bool)} {H H' : Hp} {n : Int} (h : Paired (fun v k => ∃ p, v = V.ref p ∧ H p = some (.tup (kindT k))) kv ks) (s : Sm H st l n) (k : Keep2 st l H H') : Paired (fun v k => ∃ p, v = V.ref p ∧ H' p = some (.tup (kindT k))) kv ks := Paired.mapP h fun v q ⟨p, h1, h2⟩ => ⟨p, h1, k _ _ (s.tup h2).1 (s.tup h2).2 h2⟩
theorem cut_words (ss : List Str) (m r : Nat) (hl : m + 1 + r ≤ ss.length) : cutV (ss.map V.str) (some (m : Int)) (some ((m : Int) + 1 + (r : Int))) = ((ss.drop m).take (1 + r)).map V.str := by
  unfold cutV
  rw [HT.sIx_nat, show ((m : Int) + 1 + (r : Int)) = ((m + 1 + r : Nat) : Int) by omega, HT.sIx_nat, List.length_map, Nat.min_eq_left (show m ≤ ss.length by omega), Nat.min_eq_left hl, List.map_take, List.map_drop, show m + 1 + r - m = 1 + r by omega]
end
end Ls
/-! LsD7 -/
set_option Elab.async false
set_option linter.all false
set_option maxRecDepth 100000
namespace Ls
open PySem PySem.Spec PyProof.Rows L2 Lx Ln
open Evl (Ex Ex.refl Ex.trans Ex.mut Ex.new Ev EvT EvL EvU EvA ex_l ex_t ex_rd sq_of st_of sz_of sz_lt fresh_back rv_I rv_I0)
section
variable {P : Program} {wd : World} {K : PySem.W.Frag} {mg : Str → Option Value} {base : Heap}
theorem shape_ok {ss : List Str} {m t : Nat} {kinds : List (Str × Bool)} {cols : List Col} (nd : ss.Nodup) (ok : ∀ s ∈ ss, NameOk s) (hk : kinds.map (·.1) = ss.take m) (hc : cols.map (·.word) = (ss.drop m).take t) (hm : m ≤ 3) (ht : t ≤ 4) (hh : ∀ c ∈ cols, c.home ∈ ss.take m ∧ c.goal ∈ ss.take m) : BkOk ⟨kinds, cols, []⟩ := by
  refine ⟨fun k hk' => ?_, ?_, fun c hc' => ?_, ?_, ?_⟩
  · have : k.1 ∈ kinds.map (·.1) := List.mem_map.mpr ⟨k, hk', rfl⟩
    rw [hk] at this
    exact ok _ (List.mem_of_mem_take this)
  · show ((kinds.map (·.1)) ++ cols.map (·.word)).Nodup
    rw [hk, hc]
    have : (ss.take m ++ ss.drop m).Nodup := by rw [List.take_append_drop]; exact nd
    exact this.sublist (List.Sublist.append_left (List.take_sublist _ _) _)
  · have : c.word ∈ cols.map (·.word) := List.mem_map.mpr ⟨c, hc', rfl⟩
    rw [hc] at this
    refine ⟨ok _ (List.mem_of_mem_drop (List.mem_of_mem_take this)), ?_⟩
    show c.home ∈ kinds.map (·.1) ∧ c.goal ∈ kinds.map (·.1)
    rw [hk]
    exact hh c hc'
  · have := congrArg List.length hk
    rw [List.length_map, List.length_take] at this
    show kinds.length ≤ 10
    omega
  · have := congrArg List.length hc
    rw [List.length_map, List.length_take] at this
    show cols.length ≤ 10
    omega
theorem take_snoc {α : Type} {xs : List α} {i : Nat} {x : α} (h : xs[i]? = some x) : xs.take (i + 1) = xs.take i ++ [x] := by
  rw [List.take_add_one, h] <;> rfl
theorem map_at {α β : Type} {g : α → β} {xs : List α} {i : Nat} {y : β} (h : (xs.map g)[i]? = some y) : ∃ x, xs[i]? = some x ∧ y = g x := by
  rw [List.getElem?_map] at h
  obtain ⟨x, h1, h2⟩ := Option.map_eq_some_iff.mp h
  exact ⟨x, h1, h2.symm⟩
def ruleW : List Str := ["fall", "fall", "clear"]
theorem ruleW_at {v : V} (h : v ∈ ruleW.map V.str) : ∃ b, v = .str (ruleS b) := by
  obtain ⟨s, hs, rfl⟩ := List.mem_map.mp h
  unfold ruleW at hs
  rcases List.mem_cons.mp hs with rfl | hs
  · exact ⟨true, rfl⟩
  · rcases List.mem_cons.mp hs with rfl | hs
    · exact ⟨true, rfl⟩
    · rw [List.mem_singleton.mp hs]
      exact ⟨false, rfl⟩
theorem merge_lb (L : LbA) : mergeK [] (lbD L) = lbD L := by
  have h1 : ¬ ("kinds" : Str) = "columns" := by decide
  have h2 : ¬ ("kinds" : Str) = "checks" := by decide
  have h3 : ¬ ("columns" : Str) = "checks" := by decide
  simp [mergeK, putK, lbD, h1, h2, h3]
def spShape : Sp := fun vs H Q _ => ∃ (st l : Addr) (n : Int) (m k : Nat), vs = [.ref st, .int (m : Int), .int (k : Int)] ∧ Sm H st l n ∧ 1 ≤ m ∧ m ≤ 3 ∧ 1 ≤ k ∧ k ≤ 4 ∧ n ≤ 70000 ∧ ∀ L B n' H', H L.bb = none → Keep2 st l H H' → Sm H' st l n' → n ≤ n' → n' ≤ n + 300 → LbAt st l L B [] H' → BkOk B → Q (.ref L.bb) H'
structure ShI (H : Hp) (st l w sl cl : Addr) (ss : List Str) (m k t i : Nat) (n : Int) (x5 x6 x7 : Option V) (cv : List V) (cols : List Col) (n' : Int) (σ' : L2.St) (H' : Hp) : Prop where
  es : σ' = [some (.ref st), some (.int (m : Int)), some (.int (k : Int)), some (.ref w), some (.ref cl), x5, x6, x7, none]
  k2 : Keep2 st l H H'
  sm : Sm H' st l n'
  b1 : n ≤ n'
  b2 : n' ≤ n + 150 + 3 * i
  hw : H' w = some (.lst (ss.map V.str))
  hsl : H' sl = some (.lst (((ss.drop m).take t).map V.str))
  hcl : H' cl = some (.lst cv)
  hr : PairsR RowR cv cols H'
  hc : cols.map (·.word) = ((ss.drop m).take t).take i
  hh : ∀ c ∈ cols, c.home ∈ ss.take m ∧ c.goal ∈ ss.take m
set_option maxHeartbeats 4000000 in
theorem ok_shape (T : Tf K mg) : C8.Cal P wd K mg base 4 "_law_shape" spShape [] := by
  refine cal_of (N := ["_law_stream", "_law_many", "_law_most", "_law_words", "_law_columns", "_law_name", "_law_home", "_law_goal", "_law_kinds"]) T.d_law_shape (by decide +kernel) (fun vs H Q E ⟨st, l, n, m, k, e, _⟩ => by rw [e]; rfl) fun f cdv A outer s H vs Q E hr nd h => ?_
  obtain ⟨st, l, n, m, k, rfl, hS, m1, m3, k1, k4, hn, q⟩ := h
  refine b_parQ 3 4 (a_cons (e_call (ok_lnames T) hr (a_cons (e_x (x_var 0) fun H1 e1 => a_cons (e_x (x_is (x_add (x_var 1) (x_var 2)) (w := .int ((m + k : Nat) : Int)) (by rw [Int.natCast_add])) fun H2 e2 => a_nil ⟨st, l, n, m + k, rfl, hS.keep (e1.trans e2), by omega, by omega, fun w ss n1 H3 w0 k3 s3 b1 b2 hw lw ndw okw => a_cons (e_l (x_lst x_anil) fun cl H4 cl0 e4 hcl => a_nil ⟨_, _, rfl, ?_⟩)⟩)))))
  have S2 := hS.keep (e1.trans e2)
  have nw := S2.new w0
  have ncl := s3.new cl0
  have kH3 : Keep2 st l H H3 := (Keep2.of_ex (e1.trans e2)).trans k3
  have cl0H : H cl = none := k2_back kH3 ncl cl0
  have w0H : H w = none := fresh_back (e1.trans e2) w0
  have wcl : w ≠ cl := fun z => by rw [← z, hw] at cl0; cases cl0
  have s4 := s3.keep e4
  have hw4 := e4 _ _ hw
  refine b_forQ (pg_name (i := 5) nd rfl (.inl rfl)) (e_slQ (e_x (x_var 3) fun H5 e5 => e_x (x_var 1) fun H6 e6 => ⟨(m : Int), rfl, e_op op_add (e_x (x_add (x_var 1) x_int) fun H7 e7 => e_call (ok_draw T) hr (a_cons (e_x (x_var 0) fun H8 e8 => a_cons (e_x (x_var 2) fun H9 e9 => a_nil ⟨st, l, n1, k, rfl, s4.keep ((((e5.trans e6).trans e7).trans e8).trans e9), by omega, by omega, by omega, fun r H10 r0 r1 k10 s10 => ⟨(m : Int) + 1, r, rfl, rfl, (m : Int) + 1 + r, rfl, w, ss.map V.str, rfl, sq_of (k10 _ _ nw.1 nw.2 (((((e5.trans e6).trans e7).trans e8).trans e9) _ _ hw4)), fun sl sl0 => ?_⟩⟩))))⟩))
  have e59 := (((e5.trans e6).trans e7).trans e8).trans e9
  have k10' : Keep2 st l H4 H10 := (Keep2.of_ex e59).trans k10
  have er : r = ((r.toNat : Nat) : Int) := by omega
  generalize ht : r.toNat = r' at er
  subst er
  have kH10 : Keep2 st l H H10 := (kH3.trans (Keep2.of_ex e4)).trans k10'
  have nsl := s10.new sl0
  have sl0H : H sl = none := k2_back kH10 nsl sl0
  rw [cut_words ss m r' (by omega)]
  have hw10 := k10' _ _ nw.1 nw.2 hw4
  have hcl10 := k10' _ _ ncl.1 ncl.2 hcl
  have wsl : w ≠ sl := fun z => by rw [← z, hw10] at sl0; cases sl0
  have clsl : cl ≠ sl := fun z => by rw [← z, hcl10] at sl0; cases sl0
  refine ⟨sl, _, fun i σ' H' => ∃ x5 x6 x7 cv cols n', ShI H st l w sl cl ss m k (1 + r') i n x5 x6 x7 cv cols n' σ' H', rfl, ⟨none, none, none, [], [], n1 + 1, rfl, kH10.fresh sl0H, s10.upd nsl, by omega, by omega, by rw [upd_ne wsl]; exact hw10, upd_same, by rw [upd_ne clsl]; exact hcl10, .nil, rfl, fun c h => nomatch h⟩, fun i σ' H' ⟨_, _, _, _, _, _, h⟩ => sq_of h.hsl, ?_, ?_⟩
  · rintro i x σ' H' hx ⟨x5, x6, x7, cv, cols, n', h⟩
    have es := h.es
    subst es
    obtain ⟨sx, hsx, rfl⟩ := map_at hx
    have hi : i < 1 + r' := by
      have := (List.getElem?_eq_some_iff.mp hsx).1
      rw [List.length_take] at this
      omega
    have ltm : ((ss.map V.str).take m).length = m := by rw [List.length_take, List.length_map]; omega
    refine b_parQ 6 7 (a_cons (e_call (ok_pick T) hr (a_cons (e_x (x_var 0) fun Ha ea => a_cons (e_l (xl_slTo (x_var 3) (sq_of (ea _ _ h.hw)) (x_var 1)) fun p1 Hb p10 eb hp1 => a_nil ⟨st, l, n', p1, _, rfl, h.sm.keep (ea.trans eb), hp1, ((h.sm.keep ea).new p10).1, ((h.sm.keep ea).new p10).2, by rw [ltm]; omega, by rw [ltm]; omega, by have := h.b2; omega, fun v1 Hc hv1 kc sc => a_cons (e_call (ok_pick T) hr (a_cons (e_x (x_var 0) fun Hd ed => a_cons (e_l (xl_slTo (x_var 3) (sq_of (ed _ _ (kc _ _ nw.1 nw.2 (eb _ _ (ea _ _ h.hw))))) (x_var 1)) fun p2 He p20 ee hp2 => a_nil ⟨st, l, _, p2, _, rfl, sc.keep (ed.trans ee), hp2, ((sc.keep ed).new p20).1, ((sc.keep ed).new p20).2, by rw [ltm]; omega, by rw [ltm]; omega, by have := h.b2; omega, fun v2 Hf hv2 kf sf => a_nil ⟨v1, v2, rfl, ?_⟩⟩))))⟩)))))
    have kf' : Keep2 st l H' Hf := (((Keep2.of_ex (ea.trans eb)).trans kc).trans (Keep2.of_ex (ed.trans ee))).trans kf
    rw [← List.map_take] at hv1 hv2
    obtain ⟨s1, hs1, rfl⟩ := List.mem_map.mp hv1
    obtain ⟨s2, hs2, rfl⟩ := List.mem_map.mp hv2
    have hclf := kf' _ _ ncl.1 ncl.2 h.hcl
    have hwf := kf' _ _ nw.1 nw.2 h.hw
    have hslf := kf' _ _ nsl.1 nsl.2 h.hsl
    have hrf := rows_k2 h.hr h.sm kf'
    have lcv : cv.length ≤ 10 := by
      have h1 := paired_len h.hr
      have h2 := congrArg List.length h.hc
      rw [List.length_map, List.length_take, List.length_take] at h2
      omega
    refine b_appQ (x_var 4) hclf fun Hg eg => e_tupQ (a_cons (e_x (x_var 5) fun Hh eh => a_cons (e_x (x_var 6) fun Hi ei => a_cons (e_x (x_var 7) fun Hj ej => a_cons (e_ixL (e_l (x_lst (x_sc (x_sc (x_sc x_anil)))) fun fl Hk fl0 ek hfl => e_call (ok_draw T) hr (a_cons (e_x (x_var 0) fun Hl el => a_cons (e_x x_int fun Hm em => a_nil ⟨st, l, _, 3, rfl, sf.keep ((((((eg.trans eh).trans ei).trans ej).trans ek).trans el).trans em), by decide, by decide, by have := h.b2; omega, fun r3 Hn r30 r31 kn sn => ?_⟩)))))))))
    have egm := (((((eg.trans eh).trans ei).trans ej).trans ek).trans el).trans em
    have kn' : Keep2 st l Hf Hn := (Keep2.of_ex egm).trans kn
    have nfl := (sf.keep (((eg.trans eh).trans ei).trans ej)).new fl0
    obtain ⟨v3, hv3, hm3⟩ := at_of (xs := ruleW.map V.str) r30 (by show r3 < ((3 : Nat) : Int); omega)
    obtain ⟨b3, rfl⟩ := ruleW_at hm3
    refine ⟨fl, _, r3, _, rfl, rfl, sq_of (kn _ _ nfl.1 nfl.2 (em _ _ (el _ _ hfl))), hv3, a_nil ⟨show 4 ≤ 100000 by decide, fun tp tp0 => ?_⟩⟩
    have hcln := kn' _ _ ncl.1 ncl.2 hclf
    have cltp : cl ≠ tp := fun z => by rw [← z, hcln] at tp0; cases tp0
    have ntp := sn.new tp0
    have kHn : Keep2 st l H Hn := (h.k2.trans kf').trans kn'
    have tp0H : H tp = none := k2_back kHn ntp tp0
    have hwn := kn' _ _ nw.1 nw.2 hwf
    have hsln := kn' _ _ nsl.1 nsl.2 hslf
    refine ⟨cv, by rw [upd_ne cltp]; exact hcln, by omega, b_nil ⟨_, _, _, cv ++ [V.ref tp], cols ++ [⟨sx, s1, s2, b3⟩], _, rfl, (kHn.fresh tp0H).fresh cl0H, (sn.upd ntp).upd ncl, by have := h.b1; omega, by have := h.b2; omega, ?_, ?_, upd_same, paired_snoc (PairsR.up stb_row (by rw [upd_ne cltp]; exact hcln) ((rows_k2 hrf sf kn').ex stb_row (Ex.new tp0))) ⟨tp, rfl, by rw [upd_ne (Ne.symm cltp)]; exact upd_same⟩, ?_, fun c hc => ?_⟩⟩
    · rw [upd_ne wcl, upd_ne (fun z => by rw [← z, hwn] at tp0; cases tp0)]
      exact hwn
    · rw [upd_ne (Ne.symm clsl), upd_ne (fun z => by rw [← z, hsln] at tp0; cases tp0)]
      exact hsln
    · rw [List.map_append, h.hc, take_snoc hsx] <;> rfl
    · rcases List.mem_append.mp hc with hc | hc
      · exact h.hh c hc
      · rw [List.mem_singleton.mp hc]
        exact ⟨hs1, hs2⟩
  · rintro σ' H' ⟨x5, x6, x7, cv, cols, n', h⟩
    have es := h.es
    subst es
    have lfin : ((ss.drop m).take (1 + r')).length = 1 + r' := by rw [List.length_take, List.length_drop]; omega
    have hcw : cols.map (·.word) = (ss.drop m).take (1 + r') := by
      have := h.hc
      rw [List.length_map, lfin, List.take_of_length_le (by rw [lfin]; exact Nat.le_refl _)] at this
      exact this
    have hb2 : n' ≤ n + 170 := by
      have := h.b2
      rw [List.length_map, lfin] at this
      omega
    have ltm : ((ss.map V.str).take m).length = m := by rw [List.length_take, List.length_map]; omega
    refine b_lcL 8 5 (tl_L 5 (e_l (xl_slTo (x_var 3) (sq_of h.hw) (x_var 1)) fun pk Ha pk0 ea hpk => ⟨pk, _, rfl, sq_of hpk, fun D hD => ⟨fun i Hx => ∃ kv kinds n2, Hx D = some (.lst kv) ∧ Paired (fun v k => ∃ p, v = V.ref p ∧ Hx p = some (.tup (kindT k))) kv kinds ∧ kinds.map (·.1) = (ss.take m).take i ∧ Keep2 st l Ha Hx ∧ Sm Hx st l n2 ∧ n' ≤ n2 ∧ n2 ≤ n' + i, ?_, ?_, ?_, ?_⟩⟩))
    all_goals have sA := h.sm.keep ea
    all_goals have npk := h.sm.new pk0
    all_goals have nD := sA.new hD
    · exact ⟨[], [], n', upd_same, .nil, rfl, (Keep2.of_ex (Ex.refl _)).fresh hD, sA.upd nD, Int.le_refl _, by omega⟩
    · rintro i Hx ⟨kv, kinds, n2, h1, h2, h3, h4, _⟩
      exact sq_of (h4 _ _ npk.1 npk.2 hpk)
    · rintro i x Hx hx ⟨kv, kinds, n2, h1, h2, h3, h4, h5, c1, c2⟩ s0 H0' C cl' fp
      rw [← List.map_take] at hx
      obtain ⟨sx, hsx, rfl⟩ := map_at hx
      have hi : i < m := by
        have := (List.getElem?_eq_some_iff.mp hsx).1
        rw [List.length_take] at this
        omega
      have lkv : kv.length = i := by
        have z1 := paired_len h2
        have z2 := congrArg List.length h3
        rw [List.length_map, List.length_take, List.length_take] at z2
        omega
      refine e_tupQ (a_cons (e_x (x_var 5) fun Hb eb => a_cons (e_cmp op_gt (e_call (ok_draw T) hr (a_cons (e_x (x_var 0) fun Hc ec => a_cons (e_x x_int fun Hd ed => a_nil ⟨st, l, n2, 3, rfl, h5.keep ((eb.trans ec).trans ed), by decide, by decide, by omega, fun r He r0 r1 ke se => e_x x_int fun Hf ef => ⟨r, 0, rfl, rfl, a_nil ⟨show 2 ≤ 100000 by decide, fun tp tp0 => ?_⟩⟩⟩)))) (nomark _))))
      have ke' : Keep2 st l Hx Hf := ((Keep2.of_ex ((eb.trans ec).trans ed)).trans ke).trans (Keep2.of_ex ef)
      have hDf := ke' _ _ nD.1 nD.2 h1
      have sf := se.keep ef
      have ntp := sf.new tp0
      have Dtp : D ≠ tp := fun z => by rw [← z, hDf] at tp0; cases tp0
      have tpA : Ha tp = none := k2_back (h4.trans ke') ntp tp0
      refine ⟨kv, by rw [upd_ne Dtp]; exact hDf, by omega, kv ++ [V.ref tp], kinds ++ [(sx, decide ((0 : Int) < r))], n2 + 1, upd_same, paired_snoc (Paired.mapP (kinds_k2 h2 h5 ke') fun v k ⟨p, e, hp⟩ => ⟨p, e, ?_⟩) ⟨tp, rfl, by rw [upd_ne (Ne.symm Dtp)]; exact upd_same⟩, by rw [List.map_append, h3, take_snoc hsx] <;> rfl, ((h4.trans ke').fresh tpA).fresh hD, (sf.upd ntp).upd nD, by omega, by omega⟩
      rw [upd_ne (fun z => by rw [z, hDf] at hp; cases hp), upd_ne (fun z => by rw [z, tp0] at hp; cases hp)]
      exact hp
    · rintro Hx ⟨kv, kinds, n2, h1, h2, h3, h4, h5, c1, c2⟩
      rw [ltm, List.take_of_length_le (by rw [List.length_take]; omega)] at h3
      rw [ltm] at c2
      have kx : Keep2 st l H' Hx := (Keep2.of_ex ea).trans h4
      have kHx : Keep2 st l H Hx := h.k2.trans kx
      have hclx := kx _ _ ncl.1 ncl.2 h.hcl
      have hrx := rows_k2 h.hr h.sm kx
      refine b_retQ (we (pe_disp (pps_cons peT peT (pps_cons peT peT (pps_cons peT peT pps_nil))) rfl rfl (by simp) (by exact Nat.le_of_ble_eq_true rfl)) fun p hp => e_x x_str fun Hb eb => e_x (x_var 8) fun Hc ec => e_x x_str fun Hd ed => e_x (x_var 4) fun He ee => e_x x_str fun Hf ef => e_l (x_lst x_anil) fun ck Hg ck0 eg hck => ⟨?_, lbD ⟨p, D, cl, ck, kv, cv⟩, rfl, by show 3 ≤ 15; decide, ?_⟩)
      all_goals have eg' := (((eb.trans ec).trans ed).trans ee).trans (ef.trans eg)
      · exact eg' _ _ upd_same
      rw [merge_lb]
      have E := Ex.mut (o := .dK (lbD ⟨p, D, cl, ck, kv, cv⟩)) ((Ex.new hp).trans eg') hp
      have np := h5.new hp
      have pH : H p = none := k2_back kHx np hp
      have ckp : ck ≠ p := fun z => by
        rw [z] at ck0
        have := ((((eb.trans ec).trans ed).trans ee).trans ef) _ _ (upd_same (H := Hx) (a := p) (o := .dK []))
        rw [ck0] at this
        cases this
      have nck := (h5.upd (o := .dK []) np |>.keep ((((eb.trans ec).trans ed).trans ee).trans ef)).new ck0
      exact q ⟨p, D, cl, ck, kv, cv⟩ ⟨kinds, cols, []⟩ n2 _ pH (kHx.trans (Keep2.of_ex E)) (h5.keep E) (by have := h.b1; omega) (by omega) ⟨upd_same, E _ _ h1, Paired.mapP h2 fun v k ⟨p, e, hp⟩ => ⟨p, e, E _ _ hp⟩, E _ _ hclx, hrx.ex stb_row E, by rw [upd_ne ckp]; exact hck, nD, ncl, nck⟩ (shape_ok ndw okw h3 hcw m3 (by omega) h.hh)
end
end Ls
/-! LsD8 -/
set_option Elab.async false
set_option linter.all false
set_option maxRecDepth 100000
namespace Ls
open PySem PySem.Spec PyProof.Rows L2 Lx Ln
open Evl (Ex Ex.refl Ex.trans Ex.mut Ex.new Ev EvT EvL EvU EvA ex_l ex_t ex_rd sq_of st_of sz_of sz_lt fresh_back rv_I rv_I0)
section
variable {P : Program} {wd : World} {K : PySem.W.Frag} {mg : Str → Option Value} {base : Heap} {st l : Addr} {L : LbA} {B : Bk} {cs : List Str} {H : Hp}
theorem lb_nd (L : LbA) : ((lbD L).map (·.1)).Nodup := show ([Sum.inr "kinds", Sum.inr "columns", Sum.inr "checks"] : List Key).Nodup by decide
theorem lb_v1 (L : LbA) : valV (lbD L) (Sum.inr "kinds" : Key) = some (.ref L.a) := val_at (by unfold lbD; simp) (lb_nd L)
theorem lb_v2 (L : LbA) : valV (lbD L) (Sum.inr "columns" : Key) = some (.ref L.b) := val_at (by unfold lbD; simp) (lb_nd L)
theorem lb_v3 (L : LbA) : valV (lbD L) (Sum.inr "checks" : Key) = some (.ref L.c) := val_at (by unfold lbD; simp) (lb_nd L)
theorem LbAt.g1 (h : LbAt st l L B cs H) : DGet H L.bb (.str "kinds") (some (.ref L.a)) := by
  have g := get_s (k := "kinds") (.inl h.hb : Rd H L.bb _)
  rw [lb_v1] at g
  exact g
theorem LbAt.g2 (h : LbAt st l L B cs H) : DGet H L.bb (.str "columns") (some (.ref L.b)) := by
  have g := get_s (k := "columns") (.inl h.hb : Rd H L.bb _)
  rw [lb_v2] at g
  exact g
theorem LbAt.g3 (h : LbAt st l L B cs H) : DGet H L.bb (.str "checks") (some (.ref L.c)) := by
  have g := get_s (k := "checks") (.inl h.hb : Rd H L.bb _)
  rw [lb_v3] at g
  exact g
theorem chk_eq (w n : Str) : w ++ " " ++ n = chkS w n := by
  unfold chkS
  rw [emp_app]
def cWords : List Str := ["put", "turn", "keep", "hold", "again"]
def kWords : List Str := ["bare", "calm", "again"]
theorem cW_len : ∀ w ∈ cWords, w.length ≤ 10 := by decide
theorem kW_len : ∀ w ∈ kWords, w.length ≤ 10 := by decide
def spAll : Sp := fun vs H Q _ => ∃ st l L B cs, vs = [.ref L.bb] ∧ LbAt st l L B cs H ∧ BkOk B ∧ ∀ r H', H r = none → Ex H H' → H' r = some (.lst ((menuB B).map V.str)) → Q (.ref r) H'
theorem lst_eq {H : Hp} {p : Addr} {xs ys : List V} (h : H p = some (.lst xs)) (h2 : H p = some (.lst ys)) : ys = xs := by
  rw [h] at h2
  injection h2 with h2
  injection h2 with h2
  exact h2.symm
theorem ok_allc (T : Tf K mg) : C8.Cal P wd K mg base 1 "_law_all_checks" spAll [] := by
  refine cal_of (N := ["_law_b", "_law_found", "_law_column", "_law_kind", "_law_word"]) T.d_law_all_checks (by decide +kernel) (fun vs H Q E ⟨st, l, L, B, cs, e, _⟩ => by rw [e]; rfl) fun f cdv A outer s H vs Q E hr nd h => ?_
  obtain ⟨st, l, L, B, cs, rfl, hL, O, q⟩ := h
  refine b_setN 1 (xn_l (x_lst x_anil)) fun r H1 r0 e1 hr1 => ?_
  have lc := paired_len hL.hc
  have lk := paired_len hL.hk
  have O1 := O.l1
  have O2 := O.l2
  have cn : ∀ c ∈ B.cols, c.word.length ≤ 8 := fun c hc => (O.cs c hc).1.hi
  have kn : ∀ k ∈ B.kinds, k.1.length ≤ 8 := fun k hk => (O.nm k hk).hi
  have f1 : ∀ i, ((B.cols.take i).flatMap fun c => colChecks c.word).length ≤ 50 := fun i => by
    have := flat_len (g := fun c : Col => colChecks c.word) (n := 5) (fun c => Nat.le_refl _) (B.cols.take i)
    rw [List.length_take] at this
    omega
  have f2 : ∀ i, ((B.kinds.take i).flatMap fun k => kindChecks k.1).length ≤ 30 := fun i => by
    have := flat_len (g := fun k : Str × Bool => kindChecks k.1) (n := 3) (fun c => Nat.le_refl _) (B.kinds.take i)
    rw [List.length_take] at this
    omega
  refine b_forL (S := fun v H2 => v = .ref L.b) (xp_e (x_dget hr (x_var 0) x_str (hL.ex e1).g2)) (pg_name (i := 2) nd rfl (.inr rfl)) fun v H2 e2 ev => ⟨L.b, L.cv, fun i σ' H' => ∃ x2, σ' = [some (.ref L.bb), some (.ref r), x2, none, none] ∧ Ex H H' ∧ H' r = some (.lst (((B.cols.take i).flatMap fun c => colChecks c.word).map V.str)), ev, ⟨none, rfl, e1.trans e2, e2 _ _ hr1⟩, fun i σ' H' ⟨x2, _, e, _⟩ => sq_of ((hL.ex e).hcl), ?_, ?_⟩
  · rintro i x σ' H' hx ⟨x2, rfl, e, hr'⟩
    obtain ⟨c, hc, p, rfl, hp⟩ := prd_at (hL.ex e).hc hx
    have lw := cn c (List.mem_of_getElem? hc)
    refine b_extN (S := fun p H => H p = some (.lst ((colChecks c.word).map V.str))) hr' (x_var 1) (xn_l (xl_is (x_lcE (rp := V.str) (as := cWords) 4 (fun _ => true) (fun w => V.str (w ++ " " ++ c.word)) (src_nl (x_lst (x_sc (x_sc (x_sc (x_sc (x_sc x_anil))))) (by show 5 ≤ 100000; decide))) (by decide) fun w H3 hw e3 sh H0' C cl fp => ⟨ts_nil, fun _ => x_adds (x_adds (x_var 4) x_str (by have := cW_len w hw; show w.length + 1 ≤ 100000; omega)) (x_ixT (x_var 2) x_int (st_of (e3 _ _ hp)) rfl) (by have := cW_len w hw; rw [len_app]; show w.length + 1 + c.word.length ≤ 100000; omega)⟩) (by rw [filter_yes]; unfold colChecks; rw [List.map_map]; exact List.map_congr_left fun w _ => congrArg V.str (chk_eq w c.word)))) (fun p H3 _ h => ⟨_, h, by rw [List.length_map, List.length_map]; have := f1 i; show _ + 5 ≤ 100000; omega⟩) fun pl ys H3 e3 pl0 hpl hys => b_nil ⟨_, rfl, Ex.mut (e.trans e3) r0, ?_⟩
    rw [upd_same, lst_eq hpl hys, take_flat (g := fun c : Col => colChecks c.word) hc, List.map_append]
  · rintro σ' H' ⟨x2, rfl, e, hr'⟩
    rw [lc, List.take_length] at hr'
    refine b_forL (S := fun v H2 => v = .ref L.a) (xp_e (x_dget hr (x_var 0) x_str (hL.ex e).g1)) (pg_name (i := 3) nd rfl (.inr rfl)) fun v H3 e3 ev => ⟨L.a, L.kv, fun i σ' H' => ∃ x3, σ' = [some (.ref L.bb), some (.ref r), x2, x3, none] ∧ Ex H H' ∧ H' r = some (.lst ((B.cols.flatMap (fun c => colChecks c.word) ++ (B.kinds.take i).flatMap fun k => kindChecks k.1).map V.str)), ev, ⟨none, rfl, e.trans e3, by rw [List.take_zero, List.flatMap_nil, List.append_nil]; exact e3 _ _ hr'⟩, fun i σ' H' ⟨x2, _, e, _⟩ => sq_of ((hL.ex e).ha), ?_, ?_⟩
    · rintro i x σ' H4 hx ⟨x3, rfl, e4, hr4⟩
      obtain ⟨k, hk, p, rfl, hp⟩ := prd_at (hL.ex e4).hk hx
      have lw := kn k (List.mem_of_getElem? hk)
      have f0 := f1 B.cols.length
      rw [List.take_length] at f0
      refine b_extN (S := fun p H => H p = some (.lst ((kindChecks k.1).map V.str))) hr4 (x_var 1) (xn_l (xl_is (x_lcE (rp := V.str) (as := kWords) 4 (fun _ => true) (fun w => V.str (w ++ " " ++ k.1)) (src_nl (x_lst (x_sc (x_sc (x_sc x_anil))) (by show 3 ≤ 100000; decide))) (by decide) fun w H3 hw e3 sh H0' C cl fp => ⟨ts_nil, fun _ => x_adds (x_adds (x_var 4) x_str (by have := kW_len w hw; show w.length + 1 ≤ 100000; omega)) (x_ixT (x_var 3) x_int (st_of (e3 _ _ hp)) rfl) (by have := kW_len w hw; rw [len_app]; show w.length + 1 + k.1.length ≤ 100000; omega)⟩) (by rw [filter_yes]; unfold kindChecks; rw [List.map_map]; exact List.map_congr_left fun w _ => congrArg V.str (chk_eq w k.1)))) (fun p H3 _ h => ⟨_, h, by rw [List.length_map, List.length_map, List.length_append]; have := f2 i; show _ + 3 ≤ 100000; omega⟩) fun pl ys H5 e5 pl0 hpl hys => b_nil ⟨_, rfl, Ex.mut (e4.trans e5) r0, ?_⟩
      rw [upd_same, lst_eq hpl hys, take_flat (g := fun k : Str × Bool => kindChecks k.1) hk, ← List.map_append, List.append_assoc]
    · rintro σ' H4 ⟨x3, rfl, e4, hr4⟩
      rw [lk, List.take_length] at hr4
      have f0 := f1 B.cols.length
      have f3 := f2 B.kinds.length
      rw [List.take_length] at f0 f3
      refine b_retN' (xn_catN (x_var 1) (x_lst (x_sc (x_sc x_anil)) (by show 2 ≤ 100000; decide)) hr4 (by rw [List.length_map, List.length_append]; show _ + 2 ≤ 100000; omega)) fun p H5 p0 e5 hp => q p H5 (fresh_back e4 p0) (e4.trans e5) ?_
      rw [hp]
      have em : menuB B = B.cols.flatMap (fun c => colChecks c.word) ++ B.kinds.flatMap (fun k => kindChecks k.1) ++ (["lone", "fresh"] : List Str) := by
        unfold menuB menuL Bk.cN Bk.kN
        rw [List.flatMap_map, List.flatMap_map]
      rw [em, List.map_append (l₂ := (["lone", "fresh"] : List Str))] <;> rfl
/-! ### checked -/
def shares : List Int := [0, 2, 4, 6, 9, 12]
def spChk : Sp := fun vs H Q _ => ∃ (st l : Addr) (n : Int) (L : LbA) (B : Bk), vs = [.ref st, .ref L.bb] ∧ Sm H st l n ∧ LbAt st l L B [] H ∧ BkOk B ∧ n ≤ 80000 ∧ ∀ (L' : LbA) (cs : List Str) (n' : Int) (H' : Hp), H L'.bb = none → Keep2 st l H H' → Sm H' st l n' → n ≤ n' → n' ≤ n + 110 → LbAt st l L' B cs H' → (∀ c ∈ cs, c ∈ menuB B) → Q (.ref L'.bb) H'
set_option maxHeartbeats 2000000 in
theorem ok_checked (T : Tf K mg) : C8.Cal P wd K mg base 2 "_law_checked" spChk [] := by
  refine cal_of (N := ["_law_stream", "_law_b", "_law_share", "_law_checks_here", "_law_check"]) T.d_law_checked (by decide +kernel) (fun vs H Q E ⟨st, l, n, L, B, e, _⟩ => by rw [e]; rfl) fun f cdv A outer s H vs Q E hr nd h => ?_
  obtain ⟨st, l, n, L, B, rfl, hS, hL, O, hn, q⟩ := h
  refine b_setQ 2 (e_ixL (e_l (x_lst (x_acons x_int (x_acons x_int (x_acons x_int (x_acons x_int (x_acons x_int (x_acons x_int x_anil))))))) fun il H1 il0 e1 hil => e_call (ok_draw T) hr (a_cons (e_x (x_var 0) fun H2 e2 => a_cons (e_x x_int fun H3 e3 => a_nil ⟨st, l, n, 6, rfl, hS.keep ((e1.trans e2).trans e3), by decide, by decide, by omega, fun r H4 r0 r1 k4 s4 => ?_⟩)))))
  have nil' := hS.new il0
  obtain ⟨v, hv, hm⟩ := at_of (xs := shares.map V.int) r0 (by show r < ((6 : Nat) : Int); omega)
  obtain ⟨sh, hsh, rfl⟩ := List.mem_map.mp hm
  refine ⟨il, _, r, _, rfl, rfl, sq_of (k4 _ _ nil'.1 nil'.2 (e3 _ _ (e2 _ _ hil))), hv, ?_⟩
  have k4' : Keep2 st l H H4 := (Keep2.of_ex ((e1.trans e2).trans e3)).trans k4
  have L4 := hL.k2 hS k4'
  refine b_lcF 3 4 (tl_F 4 (e_n (xn_call (ok_allc T) hr (x_acons (x_var 1) x_anil) (R := fun p H => H p = some (.lst ((menuB B).map V.str))) fun H5 e5 Q q => ⟨st, l, L, B, [], rfl, L4.ex e5, O, q⟩) fun pa Ha pa0 ea hpa => ⟨pa, _, rfl, sq_of hpa, fun D hD => ⟨fun i Hx => ∃ (cs : List Str) (n2 : Int), Hx D = some (.lst (cs.map V.str)) ∧ (∀ c ∈ cs, c ∈ menuB B) ∧ cs.length ≤ i ∧ Keep2 st l Ha Hx ∧ Sm Hx st l n2 ∧ n + 1 ≤ n2 ∧ n2 ≤ n + 1 + i ∧ i ≤ (menuB B).length, ?_, ?_, ?_, ?_⟩⟩))
  all_goals have sA := s4.keep ea
  all_goals have npa := s4.new pa0
  all_goals have nD := sA.new hD
  all_goals have ml := menu_len B O
  · exact ⟨[], n + 1, upd_same, (fun c h => nomatch h), Nat.le_refl _, (Keep2.of_ex (Ex.refl _)).fresh hD, sA.upd nD, by omega, by omega, Nat.zero_le _⟩
  · rintro i Hx ⟨cs, n2, h1, h2, h3, h4, _⟩
    exact sq_of (h4 _ _ npa.1 npa.2 hpa)
  · rintro i x Hx hx ⟨cs, n2, h1, h2, h3, h4, h5, c1, c2, c3⟩ s0 H0' C cl' fp
    obtain ⟨sx, hsx, rfl⟩ := map_at hx
    have hil := (List.getElem?_eq_some_iff.mp hsx).1
    refine tt_cmp op_lt (e_call (ok_draw T) hr (a_cons (e_x (x_var 0) fun Hc ec => a_cons (e_x x_int fun Hd ed => a_nil ⟨st, l, n2, 12, rfl, h5.keep (ec.trans ed), by decide, by decide, by omega, fun r He r0 r1 ke se => e_x (x_var 2) fun Hf ef => ⟨r, sh, rfl, rfl, _, rfl, fun hb => ?_, fun hb s1 H1' C1 cl1 fp1 => e_x (x_var 4) fun Hg eg => ?_⟩⟩)))) (nomark _)
    · have ke' : Keep2 st l Hx Hf := ((Keep2.of_ex (ec.trans ed)).trans ke).trans (Keep2.of_ex ef)
      exact ⟨cs, n2 + 1, ke' _ _ nD.1 nD.2 h1, h2, by omega, h4.trans ke', se.keep ef, by omega, by omega, hil⟩
    · have ke' : Keep2 st l Hx Hg := ((Keep2.of_ex (ec.trans ed)).trans ke).trans (Keep2.of_ex (ef.trans eg))
      refine ⟨cs.map V.str, ke' _ _ nD.1 nD.2 h1, by rw [List.length_map]; omega, cs ++ [sx], n2 + 1, by rw [upd_same, List.map_append] <;> rfl, fun c hc => ?_, by rw [List.length_append, List.length_singleton]; omega, (h4.trans ke').fresh hD, (se.keep (ef.trans eg)).upd nD, by omega, by omega, hil⟩
      rcases List.mem_append.mp hc with hc | hc
      · exact h2 c hc
      · rw [List.mem_singleton.mp hc]
        exact List.mem_of_getElem? hsx
  · rintro Hx ⟨cs, n2, h1, h2, h3, h4, h5, c1, c2, c3⟩
    rw [List.length_map] at c2
    have kx : Keep2 st l H4 Hx := (Keep2.of_ex ea).trans h4
    have Lx := L4.k2 s4 kx
    refine b_retN' (xn_disp (kvs := lbD ⟨0, L.a, L.b, D, L.kv, L.cv⟩) (d_cons x_str (x_dget hr (x_var 1) x_str Lx.g1) (d_cons x_str (x_dget hr (x_var 1) x_str Lx.g2) (d_cons x_str (x_var 3) d_nil))) rfl) fun p H' p0 e' hp => ?_
    rw [merge_lb] at hp
    have np := h5.new p0
    exact q ⟨p, L.a, L.b, D, L.kv, L.cv⟩ cs n2 H' (k2_back (k4'.trans kx) np p0) ((k4'.trans kx).trans (Keep2.of_ex e')) (h5.keep e') (by omega) (by omega) ⟨hp, (Lx.ex e').ha, (Lx.ex e').hk, (Lx.ex e').hcl, (Lx.ex e').hc, e' _ _ h1, L4.na, L4.nb, nD⟩ h2
def spRul : Sp := fun vs H Q _ => ∃ (st l : Addr) (n : Int) (m k : Nat), vs = [.ref st, .int (m : Int), .int (k : Int)] ∧ Sm H st l n ∧ 1 ≤ m ∧ m ≤ 3 ∧ 1 ≤ k ∧ k ≤ 4 ∧ n ≤ 60000 ∧ ∀ (L : LbA) (B : Bk) (cs : List Str) (n' : Int) (H' : Hp), Keep2 st l H H' → Sm H' st l n' → n ≤ n' → n' ≤ n + 500 → LbAt st l L B cs H' → BkOk B → (∀ c ∈ cs, c ∈ menuB B) → Q (.ref L.bb) H'
theorem ok_rules (T : Tf K mg) : C8.Cal P wd K mg base 5 "_law_rules" spRul [] := by
  refine cal_of (N := ["_law_stream", "_law_many", "_law_most"]) T.d_law_rules (by decide +kernel) (fun vs H Q E ⟨st, l, n, m, k, e, _⟩ => by rw [e]; rfl) fun f cdv A outer s H vs Q E hr nd h => ?_
  obtain ⟨st, l, n, m, k, rfl, hS, m1, m3, k1, k4, hn, q⟩ := h
  refine b_retQ (e_call (ok_checked T) hr (a_cons (e_x (x_var 0) fun H1 e1 => a_cons (e_call (ok_shape T) hr (a_cons (e_x (x_var 0) fun H2 e2 => a_cons (e_op op_add (e_x x_int fun H3 e3 => e_call (ok_draw T) hr (a_cons (e_x (x_var 0) fun H4 e4 => a_cons (e_x (x_var 1) fun H5 e5 => a_nil ⟨st, l, n, m, rfl, hS.keep ((((e1.trans e2).trans e3).trans e4).trans e5), by omega, by omega, by omega, fun r H6 r0 r1 k6 s6 => ⟨1, r, rfl, rfl, a_cons (e_x (x_var 2) fun H7 e7 => a_nil ⟨st, l, n + 1, (1 + r).toNat, k, ?_, s6.keep e7, by omega, by omega, k1, k4, by omega, fun L B n1 H8 b0 k8 s8 b1 b2 hL O => a_nil ⟨st, l, n1, L, B, rfl, s8, hL, O, by omega, fun L' cs n2 H9 _ k9 s9 b3 b4 hL' hcs => q L' B cs n2 H9 ((((Keep2.of_ex ((((e1.trans e2).trans e3).trans e4).trans e5)).trans k6).trans (Keep2.of_ex e7)).trans (k8.trans k9)) s9 (by omega) (by omega) hL' O hcs⟩⟩)⟩⟩)))))))))))
  show [V.ref st, V.int (1 + r), V.int (k : Int)] = [V.ref st, V.int (((1 + r).toNat : Nat) : Int), V.int (k : Int)]
  rw [show (((1 + r).toNat : Nat) : Int) = 1 + r by omega]
def spMade (K : PySem.W.Frag) : Sp := fun vs H Q _ => ∃ (st l : Addr) (L : LbA) (B : Bk) (cs : List Str), vs = [.ref L.bb] ∧ LbAt st l L B cs H ∧ BkOk B ∧ (∀ c ∈ cs, c ∈ menuB B) ∧ ∀ p A H', H p = none → Ex H H' → H A.l5 = none → BkAt K H' p A (ownB B cs) → Q (.ref p) H'
theorem ok_made (T : Tf K mg) : C8.Cal P wd K mg base 6 "_law_made" (spMade K) [] := by
  refine cal_of (N := ["_law_b"]) T.d_law_made (by decide +kernel) (fun vs H Q E ⟨st, l, L, B, cs, e, _⟩ => by rw [e]; rfl) fun f cdv A outer s H vs Q E hr nd h => ?_
  obtain ⟨st, l, L, B, cs, rfl, hL, O, im, q⟩ := h
  exact b_retN' (xn_mk (ok_book T) hr (x_acons (x_dget hr (x_var 0) x_str hL.g1) (x_acons (x_dget hr (x_var 0) x_str hL.g2) (x_acons (x_dget hr (x_var 0) x_str hL.g3) x_anil))) (m_book (B := B) (cs := cs) ⟨⟨L.kv, sq_of hL.ha, hL.hk⟩, ⟨L.cv, sq_of hL.hcl, hL.hc⟩, sq_of hL.hs, O, im⟩)) fun p H' p0 e' ⟨A, a0, hA⟩ => q p A H' p0 e' a0 hA
end
end Ls
/-! LsD9 -/
set_option Elab.async false
set_option linter.all false
set_option maxRecDepth 100000
namespace Ls
open PySem PySem.Spec PyProof.Rows L2 Lx Ln
open Evl (Ex Ex.refl Ex.trans Ex.mut Ex.new Ev EvT EvL EvU EvA ex_l ex_t ex_rd sq_of st_of sz_of sz_lt fresh_back rv_I rv_I0)
/-! ### the law's markable, in plain words -/
def mkStep (B : Bk) (F : List Str) : List Str := F ++ (B.cols.filter fun c => c.fall && decide (c.goal ∈ F)).map (·.home)
def mkIt (B : Bk) : Nat → List Str
  | 0 => (B.kinds.filter (·.2)).map (·.1)
  | i + 1 => mkStep B (mkIt B i)
def MClosed (B : Bk) (F : List Str) : Prop := ∀ c ∈ B.cols, c.fall = true → c.goal ∈ F → c.home ∈ F
theorem mkStep_sub {B : Bk} {F : List Str} {k : Str} (h : k ∈ F) : k ∈ mkStep B F := List.mem_append_left _ h
theorem mkStep_mem {B : Bk} {F : List Str} {k : Str} : k ∈ mkStep B F ↔ k ∈ F ∨ ∃ c ∈ B.cols, c.fall = true ∧ c.goal ∈ F ∧ c.home = k := by
  unfold mkStep
  rw [List.mem_append, List.mem_map]
  constructor
  · rintro (h | ⟨c, hc, e⟩)
    · exact .inl h
    · obtain ⟨h1, h2⟩ := List.mem_filter.mp hc
      simp only [Bool.and_eq_true, decide_eq_true_eq] at h2
      exact .inr ⟨c, h1, h2.1, h2.2, e⟩
  · rintro (h | ⟨c, h1, h2, h3, e⟩)
    · exact .inl h
    · exact .inr ⟨c, List.mem_filter.mpr ⟨h1, by simp only [Bool.and_eq_true, decide_eq_true_eq]; exact ⟨h2, h3⟩⟩, e⟩
def cntK (B : Bk) (F : List Str) : Nat := (B.kN.filter fun k => decide (k ∈ F)).length
theorem filt_lt {α : Type} {p q : α → Bool} : ∀ {l : List α}, (∀ a ∈ l, p a = true → q a = true) → (∃ a ∈ l, p a = false ∧ q a = true) → (l.filter p).length < (l.filter q).length
  | [], _, ⟨_, h, _⟩ => nomatch h
  | b :: l, h, ⟨a, ha, h1, h2⟩ => by
    have le : (l.filter p).length ≤ (l.filter q).length := by
      have : ∀ {l : List α}, (∀ a ∈ l, p a = true → q a = true) → (l.filter p).length ≤ (l.filter q).length := fun {l} h => by
        induction l with
        | nil => exact Nat.le_refl _
        | cons b l ih =>
          rw [List.filter_cons, List.filter_cons]
          have ih := ih fun a ha => h a (List.mem_cons_of_mem _ ha)
          have hb := h b List.mem_cons_self
          cases z : p b with
          | true => rw [hb z, if_pos rfl, if_pos rfl, List.length_cons, List.length_cons]; omega
          | false =>
            cases w : q b with
            | true => rw [if_neg Bool.false_ne_true, if_pos rfl, List.length_cons]; omega
            | false => rw [if_neg Bool.false_ne_true, if_neg Bool.false_ne_true]; exact ih
      exact this fun a ha => h a (List.mem_cons_of_mem _ ha)
    rw [List.filter_cons, List.filter_cons]
    rcases List.mem_cons.mp ha with e | ha
    · rw [← e, h1, h2, if_neg Bool.false_ne_true, if_pos rfl, List.length_cons]
      omega
    · have ih := filt_lt (l := l) (fun a ha => h a (List.mem_cons_of_mem _ ha)) ⟨a, ha, h1, h2⟩
      have hb := h b List.mem_cons_self
      cases z : p b with
      | true => rw [hb z, if_pos rfl, if_pos rfl, List.length_cons, List.length_cons]; omega
      | false =>
        cases w : q b with
        | true => rw [if_neg Bool.false_ne_true, if_pos rfl, List.length_cons]; omega
        | false => rw [if_neg Bool.false_ne_true, if_neg Bool.false_ne_true]; exact ih
theorem mk_grow {B : Bk} (O : BkOk B) : ∀ i, MClosed B (mkIt B i) ∨ i ≤ cntK B (mkIt B i)
  | 0 => .inr (Nat.zero_le _)
  | i + 1 => by
    rcases Classical.em (MClosed B (mkIt B i)) with h | h
    · left
      intro c hc hf hg
      rcases mkStep_mem.mp hg with hg | ⟨d, hd, hdf, hdg, e⟩
      · exact mkStep_sub (h c hc hf hg)
      · exact mkStep_sub (h c hc hf (by rw [← e]; exact h d hd hdf hdg))
    · right
      have ih := (mk_grow O i).resolve_left h
      have : ∃ c ∈ B.cols, c.fall = true ∧ c.goal ∈ mkIt B i ∧ c.home ∉ mkIt B i := by
        apply Classical.byContradiction
        intro hn
        exact h fun c hc hf hg => Classical.byContradiction fun z => hn ⟨c, hc, hf, hg, z⟩
      obtain ⟨c, hc, hf, hg, hn⟩ := this
      have := filt_lt (l := B.kN) (p := fun k => decide (k ∈ mkIt B i)) (q := fun k => decide (k ∈ mkIt B (i + 1))) (fun k _ hk => decide_eq_true (mkStep_sub (of_decide_eq_true hk))) ⟨c.home, (O.cs c hc).2.1, decide_eq_false hn, decide_eq_true (mkStep_mem.mpr (.inr ⟨c, hc, hf, hg, rfl⟩))⟩
      show i + 1 ≤ (B.kN.filter fun k => decide (k ∈ mkIt B (i + 1))).length
      unfold cntK at ih
      omega
theorem mk_closed {B : Bk} (O : BkOk B) : MClosed B (mkIt B B.kinds.length) := by
  rcases mk_grow O B.kinds.length with h | h
  · exact h
  · intro c hc _ _
    have e : B.kN.length = B.kinds.length := by unfold Bk.kN; rw [List.length_map]
    have all : ∀ k ∈ B.kN, decide (k ∈ mkIt B B.kinds.length) = true := by
      have : (B.kN.filter fun k => decide (k ∈ mkIt B B.kinds.length)).length = B.kN.length := Nat.le_antisymm (List.length_filter_le _ _) (by rw [e]; exact h)
      intro k hk
      exact List.length_filter_eq_length_iff.mp this k hk
    exact of_decide_eq_true (all _ (O.cs c hc).2.1)
theorem mkIt_sound {B : Bk} : ∀ i k, k ∈ mkIt B i → Mkb B k
  | 0, k, h => by
    obtain ⟨p, hp, rfl⟩ := List.mem_map.mp h
    obtain ⟨h1, h2⟩ := List.mem_filter.mp hp
    refine .op ?_
    have : p = (p.1, true) := by rw [← h2]
    rw [this] at h1
    exact h1
  | i + 1, k, h => by
    rcases mkStep_mem.mp h with h | ⟨c, h1, h2, h3, rfl⟩
    · exact mkIt_sound i k h
    · exact .fl h1 h2 (mkIt_sound i _ h3)
theorem mkIt_zero {B : Bk} : ∀ i k, k ∈ mkIt B 0 → k ∈ mkIt B i
  | 0, _, h => h
  | i + 1, k, h => mkStep_sub (mkIt_zero i k h)
theorem mkIt_iff {B : Bk} (O : BkOk B) (k : Str) : k ∈ mkIt B B.kinds.length ↔ Mkb B k := by
  refine ⟨mkIt_sound _ k, fun h => ?_⟩
  induction h with
  | op h => exact mkIt_zero _ _ (List.mem_map.mpr ⟨_, List.mem_filter.mpr ⟨h, rfl⟩, rfl⟩)
  | fl hc hf _ ih => exact mk_closed O _ hc hf ih
theorem mkb_in {B : Bk} (O : BkOk B) {k : Str} (h : Mkb B k) : k ∈ B.kN := by
  cases h with
  | op h => exact List.mem_map.mpr ⟨_, h, rfl⟩
  | fl h _ _ => exact (O.cs _ h).2.1
theorem mkIt_len {B : Bk} (O : BkOk B) : ∀ i, (mkIt B i).length ≤ 10 + 10 * i
  | 0 => by
    show ((B.kinds.filter (·.2)).map (·.1)).length ≤ 10
    rw [List.length_map]
    exact Nat.le_trans (List.length_filter_le _ _) O.l1
  | i + 1 => by
    have ih := mkIt_len O i
    have h2 := O.l2
    have h1 := List.length_filter_le (fun c : Col => c.fall && decide (c.goal ∈ mkIt B i)) B.cols
    show (mkStep B (mkIt B i)).length ≤ _
    unfold mkStep
    rw [List.length_append, List.length_map]
    omega
end Ls
/-! LsD10 -/
set_option Elab.async false
set_option linter.all false
set_option maxRecDepth 100000
namespace Lx
open PySem PySem.Spec PyProof.Rows L2 Evl
section
variable {X : Cx} {a c elt iter : Expr} {σ : L2.St} {H : Hp} {pos q1 q2 qt : Pos} {i : Int} {scope : Scope} {ifs : List Expr} {α : Type}
theorem xp_ixN {S : Addr → Hp → Prop} {R : V → Hp → Prop} (ha : XN X a σ H S) (hb : XE X c σ H (.int i)) (h : ∀ p H1, Ex H H1 → S p H1 → ∃ xs v, H1 p = some (.lst xs) ∧ atI xs i = some v ∧ R v H1) (m : ∀ v H1 H2, Ex H1 H2 → R v H1 → R v H2) (hs : PlainIx c := by intro _ _; rfl) : XP X (.Subscript a c pos) σ H R :=
  xp (pe_ix ix_list peT peT hs) fun H1 e Q q => ha H1 e _ fun p H2 p0 e2 hp => hb H2 (e.trans e2) _ fun H3 e3 => by
    obtain ⟨xs, v, h1, h2, h3⟩ := h p H2 (e.trans e2) hp
    exact rv_ixL (sq_of (e3 _ _ h1)) h2 H3 (Ex.refl _) Q fun H4 e4 => q v H4 ((e2.trans e3).trans e4) (m v _ _ (e3.trans e4) h3)
theorem wipe_2 (σ : L2.St) {j k : Nat} (n : j ≠ k) (v w : Option V) : wipe (((wipe σ [j, k]).set j v).set k w) [j, k] = wipe σ [j, k] := by
  show (((((σ.set k none).set j none).set j v).set k w).set k none).set j none = (σ.set k none).set j none
  rw [List.set_set, List.set_comm (i := j) (j := k) _ _ n, List.set_set, List.set_comm (i := j) (j := k) _ _ n, List.set_set, List.set_set]
/-- [elt for y1, y2 in a list of pairs if ..] -/
theorem xn_lc2T {xs : List V} {as : List α} {Rp : α → V → Prop} {R : α → V → Hp → Prop} {f : α → Bool} {v1 v2 : α → V} {kt : Nat} (j1 j2 : Nat) {y1 y2 : Str} (src : Src X (.Tuple [.Name y1 q1, .Name y2 q2] kt qt) iter σ H xs) (pr : Paired (fun x a => Rp a x) xs as) (hRp : ∀ a x, a ∈ as → Rp a x → ∃ p, x = .ref p ∧ H p = some (.tup [v1 a, v2 a])) (st : ∀ a, Stb (R a)) (hz : as.length ≤ 100000)
    (turn : ∀ a H', a ∈ as → Ex H H' → ∀ (s : Shared) (H0 : Hp) (C : Addr) (cl : List (Str × Addr)) (fp : List Addr), XTs (bk X scope s H0 C cl fp) ifs ((((σ.set j2 none).set j1 none).set j1 (some (v1 a))).set j2 (some (v2 a))) H' (f a) ∧ (f a = true → XP (bk X scope s H0 C cl fp) elt ((((σ.set j2 none).set j1 none).set j1 (some (v1 a))).set j2 (some (v2 a))) H' (R a)))
    (hj : j1 ≠ j2 := by decide) (hN : X.N.Nodup := by assumption) (hg : ∀ (s : Shared) (H0 : Hp) (C : Addr) (cl : List (Str × Addr)) (fp : List Addr), PG (bk X scope s H0 C cl fp) (.Tuple [.Name y1 q1, .Name y2 q2] kt qt) (gTup X.K 2 (gCons (gName j1) (gCons (gName j2) gNil))) := by intro _ _ _ _ _; exact pg_tup rfl (pgs_cons (pg_name (by assumption) rfl (.inl rfl)) (pgs_cons (pg_name (by assumption) rfl (.inl rfl)) pgs_nil))) (hc : X.calm = true := by rfl) (ok : BlkOk X.N X.env.scope scope [(y1, j1), (y2, j2)] := by exact blkOk_by (by kernel_rfl)) (hs : ∀ x, foldedSetIterable iter X.env x = pure x := by intro _; rfl) :
    XN X (.ListComp elt [⟨.Tuple [.Name y1 q1, .Name y2 q2] kt qt, iter, ifs, 0⟩] scope pos) σ H (fun p H2 => ∃ vs, H2 p = some (.lst vs) ∧ PairsR R vs (as.filter f) H2) := fun H1 e Q q =>
  we (pe_lcT [(y1, j1), (y2, j2)] hN (Classical.choose_spec src.ex).1 hg hc ok hs)
    (xn_lcG (f := f) (R := R) (τ := fun a x => ((wipe σ [j1, j2]).set j1 (some (v1 a))).set j2 (some (v2 a))) [(y1, j1), (y2, j2)] hN src pr st hz hg (fun a x H' ha e' hr => ⟨wipe_2 σ hj _ _, fun Q h => by
      obtain ⟨p, rfl, hp⟩ := hRp a x ha hr
      exact ⟨p, _, rfl, st_of (e' _ _ hp), rfl, _, _, rfl, _, _, rfl, rfl, h⟩⟩) (fun a x H' ha e' hr => turn a H' ha e') hc ok hs H1 e Q q)
end
end Lx
namespace Ls
open PySem PySem.Spec PyProof.Rows L2 Lx Ln
open Evl (Ex Ex.refl Ex.trans Ex.mut Ex.new Ev EvT EvL EvU EvA ex_l ex_t ex_rd sq_of st_of sz_of sz_lt fresh_back rv_I rv_I0)
section
variable {P : Program} {wd : World} {K : PySem.W.Frag} {mg : Str → Option Value} {base : Heap}
theorem uniq_word : ∀ {cols : List Col} {c : Col}, (cols.map (·.word)).Nodup → c ∈ cols → cols.filter (fun d => decide (d.word = c.word)) = [c]
  | [], _, _, h => nomatch h
  | d :: cols, c, nd, h => by
    rw [List.map_cons, List.nodup_cons] at nd
    rw [List.filter_cons]
    rcases List.mem_cons.mp h with e | h
    · subst e
      have : cols.filter (fun d => decide (d.word = c.word)) = [] := List.filter_eq_nil_iff.mpr fun x hx => by
        simp only [decide_eq_true_eq]
        exact fun e => nd.1 (List.mem_map.mpr ⟨x, hx, e⟩)
      rw [this]
      simp
    · have ne : d.word ≠ c.word := fun e => nd.1 (by rw [e]; exact List.mem_map.mpr ⟨c, h, rfl⟩)
      rw [decide_eq_false ne, if_neg Bool.false_ne_true]
      exact uniq_word nd.2 h
def spBy : Sp := fun vs H Q _ => ∃ (st l : Addr) (L : LbA) (B : Bk) (cs : List Str) (c : Col), vs = [.ref L.bb, .str c.word] ∧ LbAt st l L B cs H ∧ BkOk B ∧ c ∈ B.cols ∧ ∀ p H', Ex H H' → H' p = some (.tup (colT c)) → Q (.ref p) H'
theorem ok_by (T : Tf K mg) : C8.Cal P wd K mg base 1 "_law_by" spBy [] := by
  refine cal_of (N := ["_law_b", "_law_name", "_law_column"]) T.d_law_by (by decide +kernel) (fun vs H Q E ⟨st, l, L, B, cs, c, e, _⟩ => by rw [e]; rfl) fun f cdv A outer s H vs Q E hr nd h => ?_
  obtain ⟨st, l, L, B, cs, c, rfl, hL, O, hc, q⟩ := h
  refine b_retP (xp_ixN (R := RowR c) (xn_lc 2 (R := RowR) (Rp := fun c x => RowR c x H) (f := fun d => decide (d.word = c.word)) (src_l (x_dget hr (x_var 0) x_str hL.g2) (sq_of hL.hcl)) hL.hc stb_row (Nat.le_trans O.l2 (by decide)) fun d x H' hd e rd sh H0 C cl fp => ?_) x_int (fun p H1 e1 ⟨vs, h1, h2⟩ => ?_) fun v H1 H2 e h => (stb_row c).ex e h) fun v H1 e1 ⟨p, ev, hp⟩ => ?_
  · obtain ⟨p, rfl, hp⟩ := rd
    have hp' := e _ _ hp
    exact ⟨ts_one (t_eqS (x_ixT (x_var 2) x_int (st_of hp') rfl) (x_var 1)), fun _ => xp_imp (xp_e (x_var 2)) fun v H2 e2 ev => ⟨p, ev, e2 _ _ hp'⟩⟩
  · rw [uniq_word (List.nodup_append.mp O.nd).2.1 hc] at h2
    cases h2 with
    | cons a b =>
      cases b
      exact ⟨_, _, h1, at_0 _ _, a⟩
  · rw [ev]
    exact q p H1 e1 hp
def spMkl : Sp := fun vs H Q _ => ∃ (st l : Addr) (L : LbA) (B : Bk) (cs : List Str), vs = [.ref L.bb] ∧ LbAt st l L B cs H ∧ BkOk B ∧ ∀ p xs H', H p = none → Ex H H' → H' p = some (.lst ((xs : List Str).map V.str)) → (∀ k, k ∈ xs ↔ Mkb B k) → Q (.ref p) H'
theorem ok_lmk (T : Tf K mg) : C8.Cal P wd K mg base 1 "_law_markable" spMkl [] := by
  refine cal_of (N := ["_law_b", "_law_found", "_law_turn", "_law_kind", "_law_is_open", "_law_column"]) T.d_law_markable (by decide +kernel) (fun vs H Q E ⟨st, l, L, B, cs, e, _⟩ => by rw [e]; rfl) fun f cdv A outer s H vs Q E hr nd h => ?_
  obtain ⟨st, l, L, B, cs, rfl, hL, O, q⟩ := h
  have lk := paired_len hL.hk
  have O1 := O.l1
  have kp : ∀ (k : Str × Bool) (x : V) (H' : Hp), (∃ p, x = V.ref p ∧ H' p = some (.tup (kindT k))) → ∃ p, x = V.ref p ∧ H' p = some (.tup [V.str k.1, V.bl k.2]) := fun k x H' h => h
  refine b_setN 1 (R := fun p H' => H' p = some (.lst ((mkIt B 0).map V.str))) (xn_imp (xn_lc2T 3 4 (Rp := fun (k : Str × Bool) x => ∃ p, x = V.ref p ∧ H p = some (.tup (kindT k))) (R := fun k v _ => v = V.str k.1) (v1 := fun k => V.str k.1) (v2 := fun k => V.bl k.2) (f := fun k => k.2) (src_l (x_dget hr (x_var 0) x_str hL.g1) (sq_of hL.ha)) hL.hk (fun k x _ h => kp k x H h) (fun _ => stb_eq) (Nat.le_trans O1 (by decide)) fun k H' hk e sh H0 C cl fp => ⟨ts_one (t_val (x_var 4)), fun _ => xp_e (x_var 3)⟩) fun p H' _ ⟨vs, h1, h2⟩ => by rw [h1, paired_eq h2]; unfold mkIt; rw [List.map_map] <;> rfl) fun pf H1 pf0 e1 hpf => ?_
  refine b_forL (S := fun v H2 => v = .ref L.a) (xp_e (x_dget hr (x_var 0) x_str (hL.ex e1).g1)) (pg_name (i := 2) nd rfl (.inl rfl)) fun v H2 e2 ev => ⟨L.a, L.kv, fun i σ' H' => ∃ pf x2, σ' = [some (.ref L.bb), some (.ref pf), x2, none, none, none] ∧ Ex H H' ∧ H' pf = some (.lst ((mkIt B i).map V.str)) ∧ i ≤ L.kv.length, ev, ⟨pf, none, rfl, e1.trans e2, e2 _ _ hpf, Nat.zero_le _⟩, fun i σ' H' ⟨pf, x2, _, e, _⟩ => sq_of ((hL.ex e).ha), ?_, ?_⟩
  · rintro i x σ' H3 hx ⟨pf, x2, rfl, e3, hpf, hi⟩
    have L3 := hL.ex e3
    have hlt := (List.getElem?_eq_some_iff.mp hx).1
    have ml := mkIt_len O i
    refine b_setN 1 (xn_catN (x_var 1) (xl_of_n (g := fun c : Col => V.str c.home) (xn_lc 5 (R := fun c v _ => v = V.str c.home) (Rp := fun c x => RowR c x H3) (f := fun c => c.fall && decide (c.goal ∈ mkIt B i)) (src_l (x_dget hr (x_var 0) x_str L3.g2) (sq_of L3.hcl)) L3.hc (fun _ => stb_eq) (Nat.le_trans O.l2 (by decide)) fun c x H' hc e rc sh H0 C cl fp => ?_)) hpf (by rw [List.length_map, List.length_map]; have := List.length_filter_le (fun c : Col => c.fall && decide (c.goal ∈ mkIt B i)) B.cols; have := O.l2; omega)) fun pg H4 pg0 e4 hpg => b_nil ⟨pg, _, rfl, e3.trans e4, ?_, hlt⟩
    · obtain ⟨p, rfl, hp⟩ := rc
      have hp' := e _ _ hp
      exact ⟨ts_one (t_w (w_and (t_is (t_eqS (x_ixT (x_var 5) x_int (st_of hp') rfl) x_str) (b' := c.fall) (by cases c.fall <;> decide)) fun _ => w_and1 (t_inS (x_ixT (x_var 5) x_int (st_of hp') rfl) (x_var 1) (sq_of (e _ _ hpf))))), fun _ => xp_e (x_ixT (x_var 5) x_int (st_of hp') rfl)⟩
    · rw [hpg]
      show _ = some (HO.lst ((mkStep B (mkIt B i)).map V.str))
      unfold mkStep
      rw [List.map_append, List.map_map] <;> rfl
  · rintro σ' H3 ⟨pf, x2, rfl, e3, hpf, _⟩
    rw [lk] at hpf
    have L3 := hL.ex e3
    refine b_retN' (R := fun p H' => H' p = some (.lst (((B.kinds.filter fun k => decide (k.1 ∈ mkIt B B.kinds.length)).map (·.1)).map V.str))) (xn_imp (xn_lc2T 3 4 (Rp := fun (k : Str × Bool) x => ∃ p, x = V.ref p ∧ H3 p = some (.tup (kindT k))) (R := fun k v _ => v = V.str k.1) (v1 := fun k => V.str k.1) (v2 := fun k => V.bl k.2) (f := fun k => decide (k.1 ∈ mkIt B B.kinds.length)) (src_l (x_dget hr (x_var 0) x_str L3.g1) (sq_of L3.ha)) L3.hk (fun k x _ h => kp k x H3 h) (fun _ => stb_eq) (Nat.le_trans O1 (by decide)) fun k H' hk e sh H0 C cl fp => ⟨ts_one (t_inS (x_var 3) (x_var 1) (sq_of (e _ _ hpf))), fun _ => xp_e (x_var 3)⟩) fun p H' _ ⟨vs, h1, h2⟩ => by rw [h1, paired_eq h2, List.map_map] <;> rfl) fun p H4 p0 e4 hp => q p _ H4 (fresh_back e3 p0) (e3.trans e4) hp fun k => ?_
    rw [List.mem_map]
    constructor
    · rintro ⟨p, hp, rfl⟩
      exact (mkIt_iff O _).mp (of_decide_eq_true (List.mem_filter.mp hp).2)
    · intro h
      obtain ⟨p, hp, e⟩ := List.mem_map.mp (mkb_in O h)
      exact ⟨p, List.mem_filter.mpr ⟨hp, decide_eq_true (by rw [e]; exact (mkIt_iff O _).mpr h)⟩, e⟩
def spCk : Sp := fun vs H Q _ => ∃ (st l : Addr) (L : LbA) (B : Bk) (cs : List Str) (w n : Str), vs = [.ref L.bb, .str w, .str n] ∧ LbAt st l L B cs H ∧ w.length ≤ 100 ∧ n.length ≤ 100 ∧ ∀ H', Ex H H' → Q (.bl (decide (chkS w n ∈ cs))) H'
theorem ok_lchecks (T : Tf K mg) : C8.Cal P wd K mg base 1 "_law_checks" spCk [] := by
  refine cal_of (N := ["_law_b", "_law_word", "_law_name"]) T.d_law_checks (by decide +kernel) (fun vs H Q E ⟨st, l, L, B, cs, w, n, e, _⟩ => by rw [e]; rfl) fun f cdv A outer s H vs Q E hr nd h => ?_
  obtain ⟨st, l, L, B, cs, w, n, rfl, hL, lw, ln, q⟩ := h
  refine b_ret (x_is (x_inS (x_adds (x_adds (x_var 1) x_str (by show w.length + 1 ≤ 100000; omega)) (x_var 2) (by rw [len_app]; show w.length + 1 + n.length ≤ 100000; omega)) (x_dget hr (x_var 0) x_str hL.g3) (sq_of hL.hs)) (by rw [chk_eq])) q
theorem v_ck {st l : Addr} {L : LbA} {B : Bk} {cs : List Str} {H : Hp} {w n : Str} (hL : LbAt st l L B cs H) (lw : w.length ≤ 100) (ln : n.length ≤ 100) : PV spCk [.ref L.bb, .str w, .str n] H (.bl (decide (chkS w n ∈ cs))) := fun H1 e Q q => ⟨st, l, L, B, cs, w, n, rfl, hL.ex e, lw, ln, q⟩
def spLq : Sp := fun vs H Q _ => ∃ (st l : Addr) (L : LbA) (B : Bk) (cs : List Str), vs = [.ref L.bb] ∧ LbAt st l L B cs H ∧ BkOk B ∧ ∀ r qs H', H r = none → Ex H H' → H' r = some (.lst ((qs : List Str).map V.str)) → (∀ s ∈ qs, ∃ qu : Qu, qu.ok B ∧ s = qu.t) → qs.length ≤ 100 → Q (.ref r) H'
theorem ok_lqs (T : Tf K mg) : C8.Cal P wd K mg base 1 "_law_questions" spLq [] := by
  refine cal_of (N := ["_law_b", "_law_found", "_law_name", "_law_home", "_law_goal", "_law_rule", "_law_kind", "_law_is_open"]) T.d_law_questions (by decide +kernel) (fun vs H Q E ⟨st, l, L, B, cs, e, _⟩ => by rw [e]; rfl) fun f cdv A outer s H vs Q E hr nd h => ?_
  obtain ⟨st, l, L, B, cs, rfl, hL, O, q⟩ := h
  have lc := paired_len hL.hc
  have O1 := O.l1
  have O2 := O.l2
  refine b_setN 1 (xn_l (x_lst x_anil)) fun r H1 r0 e1 hr1 => ?_
  refine b_forL (S := fun v H2 => v = .ref L.b) (xp_e (x_dget hr (x_var 0) x_str (hL.ex e1).g2)) (pg_tup rfl (pgs_cons (pg_name (i := 2) nd rfl (.inl rfl)) (pgs_cons (pg_name (i := 3) nd rfl (.inl rfl)) (pgs_cons (pg_name (i := 4) nd rfl (.inl rfl)) (pgs_cons (pg_name (i := 5) nd rfl (.inl rfl)) pgs_nil))))) fun v H2 e2 ev => ⟨L.b, L.cv, fun i σ' H' => ∃ (r : Addr) (qs : List Str) (x2 x3 x4 x5 : Option V), σ' = [some (.ref L.bb), some (.ref r), x2, x3, x4, x5, none, none] ∧ Ex H H' ∧ H' r = some (.lst (qs.map V.str)) ∧ (∀ s ∈ qs, ∃ qu : Qu, qu.ok B ∧ s = qu.t) ∧ qs.length = 3 * i, ev, ⟨r, [], none, none, none, none, rfl, e1.trans e2, e2 _ _ hr1, (fun s h => nomatch h), rfl⟩, fun i σ' H' ⟨_, _, _, _, _, _, _, e, _⟩ => sq_of ((hL.ex e).hcl), ?_, ?_⟩
  · rintro i x σ' H3 hx ⟨r, qs, x2, x3, x4, x5, rfl, e3, hr3, hq, lq⟩
    obtain ⟨c, hc, p, rfl, hp⟩ := prd_at (hL.ex e3).hc hx
    have hcm := List.mem_of_getElem? hc
    have lw := (O.cs c hcm).1.hi
    have hi := (List.getElem?_eq_some_iff.mp hc).1
    refine ⟨p, _, rfl, st_of hp, rfl, _, _, rfl, _, _, rfl, _, _, rfl, _, _, rfl, rfl, ?_⟩
    have l3 : (lastQ c.fall).length ≤ 7 := by cases c.fall <;> decide
    refine b_setN 1 (xn_catN (x_var 1) (x_lst (x_acons (x_adds x_str (x_var 2) (by show 6 + c.word.length ≤ 100000; omega)) (x_acons (x_adds x_str (x_var 2) (by show 5 + c.word.length ≤ 100000; omega)) (x_acons (x_adds (s := lastQ c.fall) (x_ifE (t_is (t_eqS (x_var 5) x_str) (b' := c.fall) (by cases c.fall <;> decide)) (fun h => by rw [h]; exact x_str) fun h => by rw [h]; exact x_str) (x_var 2) (by omega)) x_anil)))) hr3 (by rw [List.length_map]; show qs.length + 3 ≤ 100000; omega)) fun r' H4 r'0 e4 hr4 => b_nil ⟨r', qs ++ colQs c, _, _, _, _, rfl, e3.trans e4, by rw [hr4, List.map_append] <;> rfl, fun s hs => ?_, by rw [List.length_append, lq] <;> rfl⟩
    rcases List.mem_append.mp hs with hs | hs
    · exact hq s hs
    · have t1 : ∀ n, (Qu.col n c).t = qS c.fall n ++ " " ++ c.word := fun n => rfl
      unfold colQs at hs
      rcases List.mem_cons.mp hs with rfl | hs
      · exact ⟨.col .loose c, hcm, by rw [t1]; show ("loose " : Str) ++ _ = (("loose" : Str) ++ " ") ++ _; rw [show (("loose" : Str) ++ " ") = "loose " by decide]⟩
      · rcases List.mem_cons.mp hs with rfl | hs
        · exact ⟨.col .half c, hcm, by rw [t1]; show ("half " : Str) ++ _ = (("half" : Str) ++ " ") ++ _; rw [show (("half" : Str) ++ " ") = "half " by decide]⟩
        · rw [List.mem_singleton.mp hs]
          refine ⟨.col .wrong c, hcm, ?_⟩
          rw [t1]
          have : lastQ c.fall = qS c.fall .wrong ++ " " := by cases c.fall <;> decide
          rw [this]
  · rintro σ' H3 ⟨r, qs, x2, x3, x4, x5, rfl, e3, hr3, hq, lq⟩
    have L3 := hL.ex e3
    refine b_retN' (xn_catN (x_var 1) (xl_of_n (g := fun k : Str × Bool => V.str (("undue " : Str) ++ k.1)) (as := B.kinds.filter fun _ => true) (xn_lc2T 6 7 (Rp := fun (k : Str × Bool) x => ∃ p, x = V.ref p ∧ H3 p = some (.tup (kindT k))) (R := fun k v _ => v = V.str (("undue " : Str) ++ k.1)) (v1 := fun k => V.str k.1) (v2 := fun k => V.bl k.2) (f := fun _ => true) (src_l (x_dget hr (x_var 0) x_str L3.g1) (sq_of L3.ha)) L3.hk (fun k x _ h => h) (fun _ => stb_eq) (Nat.le_trans O1 (by decide)) fun k H' hk e sh H0 C cl fp => ⟨ts_nil, fun _ => xp_e (x_adds x_str (x_var 6) (by have := (O.nm k hk).hi; show 6 + k.1.length ≤ 100000; omega))⟩)) hr3 (by rw [List.length_map, filter_yes, List.length_map]; omega)) fun p H4 p0 e4 hp => q p (qs ++ B.kinds.map fun k => ("undue " : Str) ++ k.1) H4 (fresh_back e3 p0) (e3.trans e4) (by rw [hp, filter_yes, List.map_append, List.map_map] <;> rfl) (fun s hs => ?_) (by rw [List.length_append, List.length_map]; omega)
    rcases List.mem_append.mp hs with hs | hs
    · exact hq s hs
    · obtain ⟨k, hk, rfl⟩ := List.mem_map.mp hs
      refine ⟨.kind k.1, List.mem_map.mpr ⟨k, hk, rfl⟩, ?_⟩
      show ("undue " : Str) ++ k.1 = (("undue" : Str) ++ " ") ++ k.1
      rw [show (("undue" : Str) ++ " ") = "undue " by decide]
end
end Ls
/-! LsD11 -/
set_option Elab.async false
set_option linter.all false
set_option maxRecDepth 100000
namespace Lx
open PySem PySem.Spec PyProof.Rows L2 Evl
section
variable {X : Cx} {a c : Expr} {σ : L2.St} {H : Hp} {pos : Pos} {s : Str} {b : Bool} {S : Addr → Hp → Prop}
theorem x_inNP (ha : XE X a σ H (.str s)) (hb : XN X c σ H S) (h : ∀ p H1, S p H1 → ∃ xs : List Str, H1 p = some (.lst (xs.map V.str)) ∧ decide (s ∈ xs) = b) (hm : behindInMarks .In c = false := by rfl) : XE X (.Compare a [.In] [c] pos) σ H (.bl b) :=
  xe (pe_cmpR op_in_seq peT peT hm) fun H1 e1 Q q => ha H1 e1 _ fun H2 e2 => hb H2 (e1.trans e2) _ fun p H3 p0 e3 s3 => by
    obtain ⟨xs, hx, eb⟩ := h p H3 s3
    refine rv_isL (sq_of hx) rfl (flat_strs xs) H3 (Ex.refl _) Q fun H4 e4 => ?_
    rw [inV_strs, eb]
    exact q H4 ((e2.trans e3).trans e4)
theorem t_niNP (ha : XE X a σ H (.str s)) (hb : XN X c σ H S) (h : ∀ p H1, S p H1 → ∃ xs : List Str, H1 p = some (.lst (xs.map V.str)) ∧ decide (s ∈ xs) = b) (hm : behindInMarks .NotIn c = false := by rfl) : XT X (.Compare a [.NotIn] [c] pos) σ H (!b) :=
  xt (pt_cmpR op_notIn_seq peT peT hm) fun H1 e1 Q q => ha H1 e1 _ fun H2 e2 => hb H2 (e1.trans e2) _ fun p H3 p0 e3 s3 => by
    obtain ⟨xs, hx, eb⟩ := h p H3 s3
    refine rv_niL (sq_of hx) rfl (flat_strs xs) H3 (Ex.refl _) _ fun H4 e4 => ⟨_, rfl, ?_⟩
    rw [inV_strs, eb]
    exact q H4 ((e2.trans e3).trans e4)
theorem xp_sl13 {e : Expr} {w x y z : V} {k1 k3 : Nat} {p1 p2 p3 : Pos} (ha : XP X e σ H (fun v H' => ∃ p, v = .ref p ∧ H' p = some (.tup [w, x, y, z]))) : XP X (.Subscript e (.Slice (some (.Constant (.int 1) k1 p1)) (some (.Constant (.int 3) k3 p3)) none p2) pos) σ H (fun v H' => ∃ p, v = .ref p ∧ H' p = some (.tup [x, y])) :=
  xp (pe_slice sl_tup peT (po_some pe_int) (po_some pe_int)) fun H1 e1 Q q => ha H1 e1 _ fun v H2 e2 ⟨p, ev, hp⟩ => ⟨1, rfl, 3, rfl, p, [w, x, y, z], ev, st_of hp, (fun h => absurd (show (1 : Nat) = 0 from h.1) (by decide)), fun p' hp' => q _ _ (e2.trans (Ex.new hp')) ⟨p', rfl, upd_same⟩⟩
end
end Lx
namespace Ls
open PySem PySem.Spec PyProof.Rows L2 Lx Ln
open Evl (Ex Ex.refl Ex.trans Ex.mut Ex.new Ev EvT EvL EvU EvA ex_l ex_t ex_rd sq_of st_of sz_of sz_lt fresh_back rv_I rv_I0)
open Lsm (Qn)
section
variable {P : Program} {wd : World} {K : PySem.W.Frag} {mg : Str → Option Value} {base : Heap}
theorem has_own {B : Bk} {cs : List Str} (im : ∀ c ∈ cs, c ∈ menuB B) (w n : Str) : (ownB B cs).has w n = decide (chkS w n ∈ cs) := by
  unfold Bk.has ownB
  rw [decide_eq_decide]
  simp only [List.mem_filter, decide_eq_true_eq]
  exact ⟨fun h => h.2, fun h => ⟨im _ h, h⟩⟩
theorem chk_own {B : Bk} {cs : List Str} (im : ∀ c ∈ cs, c ∈ menuB B) (w : Str) : (ownB B cs).chk w = decide (w ∈ cs) := by
  unfold Bk.chk ownB
  rw [decide_eq_decide]
  simp only [List.mem_filter, decide_eq_true_eq]
  exact ⟨fun h => h.2, fun h => ⟨im _ h, h⟩⟩
theorem condB_loose (mk : Str → Bool) (B : Bk) (c : Col) : condB mk B (.col .loose c) = (mk c.goal && ((!B.has "bare" c.goal && !B.has "calm" c.goal) || (!B.has "again" c.goal && (!B.has "put" c.word || !B.has "turn" c.word || (!B.chk "fresh" && !B.chk "lone"))))) := rfl
theorem condB_half (mk : Str → Bool) (B : Bk) (c : Col) : condB mk B (.col .half c) = (mk c.goal && ((!B.has "bare" c.goal && (!B.has "calm" c.goal || mk c.home)) || (!B.has "again" c.goal && (!B.has "put" c.word || !B.has "turn" c.word || (!B.chk "fresh" && !B.chk "lone"))))) := rfl
theorem condB_wrong (mk : Str → Bool) (B : Bk) (c : Col) : condB mk B (.col .wrong c) = (mk c.goal && (if c.fall = true then (!B.has "keep" c.word && (!B.has "hold" c.word || !B.has "again" c.word)) || (!B.chk "fresh" && (!B.has "bare" c.goal || (!B.chk "lone" && (!B.has "again" c.goal || !B.has "again" c.word)))) else !B.has "again" c.word && (!B.has "keep" c.word || !B.chk "lone"))) := rfl
theorem condB_no {mk : Str → Bool} {B : Bk} {c : Col} {n : Qn} (h : mk c.goal = false) : condB mk B (.col n c) = false := by
  cases n with
  | loose => rw [condB_loose, h] <;> rfl
  | half => rw [condB_half, h] <;> rfl
  | wrong => rw [condB_wrong, h] <;> rfl
def isWr : Qn → Bool | .wrong => true | _ => false
def spCm : Sp := fun vs H Q _ => ∃ (st l : Addr) (L : LbA) (B : Bk) (cs : List Str) (qu : Qu) (mk : Str → Bool), vs = [.ref L.bb, .str qu.t] ∧ LbAt st l L B cs H ∧ BkOk B ∧ qu.ok B ∧ (∀ c ∈ cs, c ∈ menuB B) ∧ (∀ k, mk k = true ↔ Mkb B k) ∧ ∀ H', Ex H H' → Q (.bl (condB mk (ownB B cs) qu)) H'
def resC (n : Qn) (fall put turn keep hold again bare calm twice lone fresh mkh : Bool) : Bool := match n with
  | .loose => (!bare && !calm) || (!twice && (!put || (!turn || (!fresh && !lone))))
  | .half => (!bare && (!calm || mkh)) || (!twice && (!put || (!turn || (!fresh && !lone))))
  | .wrong => if fall = true then (!keep && (!hold || !again)) || (!fresh && (!bare || (!lone && (!twice || !again)))) else !again && (!keep || !lone)
abbrev nCm : List Str := ["_law_b", "_law_question", "_law_word", "_law_name", "_law_is_lone", "_law_is_fresh", "_law_home", "_law_goal", "_law_put", "_law_turn", "_law_keep", "_law_hold", "_law_again", "_law_bare", "_law_calm", "_law_twice", "_law_late", "_law_stolen", "_law_sort"]
set_option maxHeartbeats 2000000 in
theorem cm_rest (T : Tf K mg) {f : Addr} {cdv : Value} {A : Around} {outer : List Env} {s : Shared} {H0 H : Hp} {E : XK} {Q : VK} {st l : Addr} {L : LbA} {B : Bk} {cs : List Str} {n : Qn} {c : Col} {mk : Str → Bool} {qt : Str} {put turn keep hold again bare calm twice lone fresh : Bool} (hr : Room 1 (A.deeper (envOfC "_law_comes" (C8.fnScope (top 102)) s.heap.objs.size f cdv))) (nd : nCm.Nodup)
    (hL : LbAt st l L B cs H) (O : BkOk B) (hmk : ∀ k, mk k = true ↔ Mkb B k) (q : ∀ H', Ex H H' → Q (.bl (resC n c.fall put turn keep hold again bare calm twice lone fresh (mk c.home))) H') :
    bT (cxOf C8.CX0 P wd K mg base nCm "_law_comes" (C8.fnScope (top 102)) f cdv A outer s H0 E).nox ((C8.fnBody (top 102)).drop 7) { nx := fun _ H' => Q .non H', rt := Q } [some (.ref L.bb), some (.str qt), some (.str (qS c.fall n)), some (.str c.word), some (.bl lone), some (.bl fresh), some (.str c.home), some (.str c.goal), some (.bl put), some (.bl turn), some (.bl keep), some (.bl hold), some (.bl again), some (.bl bare), some (.bl calm), some (.bl twice), none, none, none] H := by
  have mkx : ∀ (k : Str) (p : Addr) (H1' : Hp), (∃ xs : List Str, H1' p = some (.lst (xs.map V.str)) ∧ ∀ k, k ∈ xs ↔ Mkb B k) → ∃ xs : List Str, H1' p = some (.lst (xs.map V.str)) ∧ decide (k ∈ xs) = mk k := fun k p H1' ⟨xs, h1, h2⟩ => ⟨xs, h1, by
    rw [Bool.eq_iff_iff, decide_eq_true_iff, h2, hmk]⟩
  have mkc : ∀ {H3}, Ex H H3 → PN spMkl [.ref L.bb] H3 (fun p H1' => ∃ xs : List Str, H1' p = some (.lst (xs.map V.str)) ∧ ∀ k, k ∈ xs ↔ Mkb B k) := fun {H3} e3 H4 e4 Q q => ⟨st, l, L, B, cs, rfl, hL.ex (e3.trans e4), O, fun p xs H' p0 e h1 h2 => q p H' p0 e ⟨xs, h1, h2⟩⟩
  refine b_set 16 (x_and (x_not (x_var 15)) fun _ => x_one (x_or (x_not (x_var 8)) fun _ => x_or (x_not (x_var 9)) fun _ => x_one (x_and (x_not (x_var 5)) fun _ => x_one (x_not (x_var 4))))) fun H8 e8 => ?_
  show bT _ _ _ [some (.ref L.bb), some (.str qt), some (.str (qS c.fall n)), some (.str c.word), some (.bl lone), some (.bl fresh), some (.str c.home), some (.str c.goal), some (.bl put), some (.bl turn), some (.bl keep), some (.bl hold), some (.bl again), some (.bl bare), some (.bl calm), some (.bl twice), some (.bl (!twice && (!put || (!turn || (!fresh && !lone))))), none, none] _
  refine b_if (b := isLoose n) (t_is (t_eqS (x_var 2) x_str) (q_loose c.fall n)) (fun hb8 H9 e9 => b_ret (x_or (x_and (x_not (x_var 13)) fun _ => x_one (x_not (x_var 14))) fun _ => x_one (x_var 16)) fun H10 e10 => ?_) fun hb8 H9 e9 => b_nil ?_
  · have := q H10 ((e8.trans e9).trans e10)
    have en : n = .loose := by cases n <;> first | rfl | cases hb8
    subst en
    exact this
  refine b_if (b := isHalf n) (t_is (t_eqS (x_var 2) x_str) (q_half c.fall n)) (fun hb9 H10 e10 => b_ret (x_or (x_and (x_not (x_var 13)) fun _ => x_one (x_or (x_not (x_var 14)) fun _ => x_one (x_inNP (x_var 6) (xn_call (ok_lmk T) hr (x_acons (x_var 0) x_anil) (mkc ((e8.trans e9).trans e10))) (mkx c.home)))) fun _ => x_one (x_var 16)) fun H11 e11 => ?_) fun hb9 H10 e10 => b_nil ?_
  · have := q H11 (((e8.trans e9).trans e10).trans e11)
    have en : n = .half := by cases n <;> first | rfl | cases hb9
    subst en
    exact this
  have en : n = .wrong := by cases n <;> first | rfl | (cases hb8; done) | (cases hb9; done)
  subst en
  refine b_if (b := !c.fall) (t_is (t_eqS (x_var 2) x_str) (by cases c.fall <;> decide)) (fun hb10 H11 e11 => b_ret (x_and (x_not (x_var 12)) fun _ => x_one (x_or (x_not (x_var 10)) fun _ => x_one (x_not (x_var 4)))) fun H12 e12' => ?_) fun hb10 H11 e11 => b_nil ?_
  · have := q H12 ((((e8.trans e9).trans e10).trans e11).trans e12')
    have hf : c.fall = false := by cases z : c.fall <;> rw [z] at hb10 <;> first | rfl | cases hb10
    unfold resC at this
    simp only [hf, Bool.false_eq_true, if_false] at this
    exact this
  have hf : c.fall = true := by cases z : c.fall <;> rw [z] at hb10 <;> first | rfl | cases hb10
  refine b_set 17 (x_and (x_not (x_var 5)) fun _ => x_one (x_or (x_not (x_var 13)) fun _ => x_one (x_and (x_not (x_var 4)) fun _ => x_one (x_or (x_not (x_var 15)) fun _ => x_one (x_not (x_var 12)))))) fun H12 e12' => ?_
  refine b_ret (x_or (x_and (x_not (x_var 10)) fun _ => x_one (x_or (x_not (x_var 11)) fun _ => x_one (x_not (x_var 12)))) fun _ => x_one (x_var 17)) fun H13 e13 => ?_
  have := q H13 (((((e8.trans e9).trans e10).trans e11).trans e12').trans e13)
  unfold resC at this
  simp only [hf, if_true] at this
  exact this
end
end Ls
/-! LsD12 -/
set_option Elab.async false
set_option linter.all false
set_option maxRecDepth 100000
namespace Ls
open PySem PySem.Spec PyProof.Rows L2 Lx Ln
open Evl (Ex Ex.refl Ex.trans Ex.mut Ex.new Ev EvT EvL EvU EvA ex_l ex_t ex_rd sq_of st_of sz_of sz_lt fresh_back rv_I rv_I0)
open Lsm (Qn)
section
variable {P : Program} {wd : World} {K : PySem.W.Frag} {mg : Str → Option Value} {base : Heap}
set_option maxHeartbeats 4000000 in
theorem ok_comes (T : Tf K mg) : C8.Cal P wd K mg base 2 "_law_comes" spCm [] := by
  refine cal_of (N := ["_law_b", "_law_question", "_law_word", "_law_name", "_law_is_lone", "_law_is_fresh", "_law_home", "_law_goal", "_law_put", "_law_turn", "_law_keep", "_law_hold", "_law_again", "_law_bare", "_law_calm", "_law_twice", "_law_late", "_law_stolen", "_law_sort"]) T.d_law_comes (by decide +kernel) (fun vs H Q E ⟨st, l, L, B, cs, qu, mk, e, _⟩ => by rw [e]; rfl) fun f cdv A outer s H vs Q E hr nd h => ?_
  obtain ⟨st, l, L, B, cs, qu, mk, rfl, hL, O, hq, im, hmk, q⟩ := h
  have ho := has_own im
  have co := chk_own im
  have nm := Qu.nm O hq
  refine b_asg (xp_l (xl_split (x_var 1) x_str (by decide) (Nat.le_trans (qt_len O hq) (by decide)))) (pg_unl rfl (pgs_cons (pg_name (i := 2) nd rfl (.inl rfl)) (pgs_cons (pg_name (i := 3) nd rfl (.inr rfl)) pgs_nil))) fun v H1 e1 ⟨lp, ev, hl⟩ => ?_
  rw [show qu.t = qu.w ++ " " ++ qu.n from rfl, split_q (qw_sp qu).1 (name_sp nm)] at hl
  refine ⟨lp, _, ev, sq_of hl, rfl, _, _, rfl, _, _, rfl, rfl, ?_⟩
  have L1 := hL.ex e1
  refine b_par 4 5 (xap_e (x_acons (x_inS x_str (x_dget hr (x_var 0) x_str L1.g3) (sq_of L1.hs)) (x_acons (x_inS x_str (x_dget hr (x_var 0) x_str L1.g3) (sq_of L1.hs)) x_anil))) fun vs H2 e2 ev2 => ⟨_, _, ev2, ?_⟩
  have L2 := L1.ex e2
  have e12 := e1.trans e2
  have mkx : ∀ (k : Str) (p : Addr) (H1' : Hp), (∃ xs : List Str, H1' p = some (.lst (xs.map V.str)) ∧ ∀ k, k ∈ xs ↔ Mkb B k) → ∃ xs : List Str, H1' p = some (.lst (xs.map V.str)) ∧ decide (k ∈ xs) = mk k := fun k p H1' ⟨xs, h1, h2⟩ => ⟨xs, h1, by
    rw [Bool.eq_iff_iff, decide_eq_true_iff, h2, hmk]⟩
  have mkc : ∀ {H3}, Ex H2 H3 → PN spMkl [.ref L.bb] H3 (fun p H1' => ∃ xs : List Str, H1' p = some (.lst (xs.map V.str)) ∧ ∀ k, k ∈ xs ↔ Mkb B k) := fun {H3} e3 H4 e4 Q q => ⟨st, l, L, B, cs, rfl, L2.ex (e3.trans e4), O, fun p xs H' p0 e h1 h2 => q p H' p0 e ⟨xs, h1, h2⟩⟩
  have hw : decide (qu.w = "undue") = qu.isK := by
    cases qu with
    | kind k => show decide (("undue" : Str) = "undue") = true; decide
    | col n c => show decide (qS c.fall n = "undue") = false; cases n <;> cases c.fall <;> decide
  refine b_if (b := qu.isK) (t_is (t_eqS (x_var 2) x_str) hw) (fun hb H3 e3 => ?_) fun hb H3 e3 => b_nil ?_
  · obtain ⟨k, rfl⟩ : ∃ k, qu = .kind k := by cases qu with | kind k => exact ⟨k, rfl⟩ | col n c => cases hb
    refine b_ret (x_is (x_and (x_inNP (x_var 3) (xn_call (ok_lmk T) hr (x_acons (x_var 0) x_anil) (mkc e3)) (mkx k)) fun _ => x_and (x_not (x_call (ok_lchecks T) hr (x_acons (x_var 0) (x_acons x_str (x_acons (x_var 3) x_anil))) (v_ck (L2.ex e3) (by decide) (Nat.le_trans nm.hi (by decide))))) fun _ => x_and (x_not (x_var 4)) fun _ => x_one (x_not (x_var 5))) ?_) fun H4 e4 => q H4 ((e12.trans e3).trans e4)
    show _ = V.bl (mk k && (!(ownB B cs).has "again" k && (!(ownB B cs).chk "lone" && !(ownB B cs).chk "fresh")))
    rw [ho, co, co] <;> rfl
  obtain ⟨n, c, rfl⟩ : ∃ n c, qu = .col n c := by cases qu with | kind k => cases hb | col n c => exact ⟨n, c, rfl⟩
  have hc : c ∈ B.cols := hq
  have L3 := L2.ex e3
  have wl : c.word.length ≤ 100 := Nat.le_trans nm.hi (by decide)
  have gl : c.goal.length ≤ 100 := by
    obtain ⟨k, hk, e⟩ := List.mem_map.mp (O.cs c hc).2.2
    rw [← e]
    exact Nat.le_trans (O.nm k hk).hi (by decide)
  refine b_asg (xp_sl13 (xp_call (P := fun v H' => ∃ p, v = V.ref p ∧ H' p = some (.tup (colT c))) (ok_by T) hr (xap_e (x_acons (x_var 0) (x_acons (x_var 3) x_anil))) fun vs H5 e5 ev5 H6 e6 Q q => by
    rw [ev5]
    exact ⟨st, l, L, B, cs, c, rfl, L3.ex (e5.trans e6), O, hc, fun p H' e' hp => q _ H' e' ⟨p, rfl, hp⟩⟩)) (pg_tup rfl (pgs_cons (pg_name (i := 6) nd rfl (.inl rfl)) (pgs_cons (pg_name (i := 7) nd rfl (.inr rfl)) pgs_nil))) fun v H4 e4 ⟨p, ev4, hp⟩ => ⟨p, _, ev4, st_of hp, rfl, _, _, rfl, _, _, rfl, rfl, ?_⟩
  have L4 := L3.ex e4
  have e14 := (e12.trans e3).trans e4
  refine b_if (t_niNP (x_var 7) (xn_call (ok_lmk T) hr (x_acons (x_var 0) x_anil) (mkc (e3.trans e4))) (mkx c.goal)) (fun hb5 H5 e5 => b_ret x_bl fun H6 e6 => ?_) fun hb5 H5 e5 => b_nil ?_
  · have hm : mk c.goal = false := by
      cases z : mk c.goal with
      | false => rfl
      | true => rw [z] at hb5; cases hb5
    have := q H6 ((e14.trans e5).trans e6)
    have ec : condB mk (ownB B cs) (.col n c) = false := condB_no hm
    rw [ec] at this
    exact this
  have hm : mk c.goal = true := by
    cases z : mk c.goal with
    | true => rfl
    | false => rw [z] at hb5; cases hb5
  have L5 := L4.ex e5
  refine b_asg (xp_l (x_lcE (rp := V.str) (as := cWords) 18 (fun _ => true) (fun w => V.bl (decide (chkS w c.word ∈ cs))) (src_nl (x_lst (x_sc (x_sc (x_sc (x_sc (x_sc x_anil))))) (by show 5 ≤ 100000; decide))) (by decide) fun w H6 hw' e6 sh H0' C cl fp => ⟨ts_nil, fun _ => x_call (ok_lchecks T) hr (x_acons (x_var 0) (x_acons (x_var 18) (x_acons (x_var 3) x_anil))) (v_ck (L5.ex e6) (Nat.le_trans (cW_len w hw') (by decide)) wl)⟩)) (pg_unl rfl (pgs_cons (pg_name (i := 8) nd rfl (.inl rfl)) (pgs_cons (pg_name (i := 9) nd rfl (.inl rfl)) (pgs_cons (pg_name (i := 10) nd rfl (.inl rfl)) (pgs_cons (pg_name (i := 11) nd rfl (.inl rfl)) (pgs_cons (pg_name (i := 12) nd rfl (.inl rfl)) pgs_nil)))))) fun v H6 e6 ⟨lq, ev6, hlq⟩ => ⟨lq, _, ev6, sq_of hlq, rfl, _, _, rfl, _, _, rfl, _, _, rfl, _, _, rfl, _, _, rfl, rfl, ?_⟩
  have L6 := L5.ex e6
  refine b_asg (xp_l (x_lcE (rp := V.str) (as := kWords) 18 (fun _ => true) (fun w => V.bl (decide (chkS w c.goal ∈ cs))) (src_nl (x_lst (x_sc (x_sc (x_sc x_anil))) (by show 3 ≤ 100000; decide))) (by decide) fun w H7 hw' e7 sh H0' C cl fp => ⟨ts_nil, fun _ => x_call (ok_lchecks T) hr (x_acons (x_var 0) (x_acons (x_var 18) (x_acons (x_var 7) x_anil))) (v_ck (L6.ex e7) (Nat.le_trans (kW_len w hw') (by decide)) gl)⟩)) (pg_unl rfl (pgs_cons (pg_name (i := 13) nd rfl (.inl rfl)) (pgs_cons (pg_name (i := 14) nd rfl (.inl rfl)) (pgs_cons (pg_name (i := 15) nd rfl (.inl rfl)) pgs_nil)))) fun v H7 e7 ⟨lr, ev7, hlr⟩ => ⟨lr, _, ev7, sq_of hlr, rfl, _, _, rfl, _, _, rfl, _, _, rfl, rfl, ?_⟩
  have e17 := ((e14.trans e5).trans e6).trans e7
  refine cm_rest T hr nd (L6.ex e7) O hmk (q := fun H8 e8 => ?_)
  have := q H8 (e17.trans e8)
  cases n with
  | loose =>
    rw [condB_loose, hm, ho, ho, ho, ho, ho, co, co, Bool.true_and, Bool.or_assoc (!decide (chkS "put" c.word ∈ cs))] at this
    exact this
  | half =>
    rw [condB_half, hm, ho, ho, ho, ho, ho, co, co, Bool.true_and, Bool.or_assoc (!decide (chkS "put" c.word ∈ cs))] at this
    exact this
  | wrong =>
    rw [condB_wrong, hm, ho, ho, ho, ho, ho, co, co, Bool.true_and] at this
    exact this
end
end Ls
/-! LsD13 -/
set_option Elab.async false
set_option linter.all false
set_option maxRecDepth 100000
namespace Lx
open PySem PySem.Spec PyProof.Rows L2 Evl
section
variable {X : Cx} {a c d e o : Expr} {es : List Expr} {rest sts2 els : List Stmt} {σ : L2.St} {H : Hp} {D : Ends} {pos p1 p2 apos : Pos} {ad : Addr} {Q : VK}
theorem e_lstQ (h : aT X es σ H fun vs H1 => vs.length ≤ 100000 ∧ ∀ p, H1 p = none → Q (.ref p) (upd H1 p (.lst vs))) : eT X (.List es pos) σ H Q :=
  we (pe_lst paT) fun po pins s I => thn (h po pins s I) fun us s1 ⟨vs, H1, I1, r1, h1, h2⟩ => ⟨vs, H1, I1, r1, sz_of h1, h2⟩
theorem e_ixT (h : eT X a σ H fun x H1 => eT X c σ H1 fun y H2 => ∃ p xs i v, x = .ref p ∧ y = .int i ∧ SqT X.K H2 p xs ∧ atI xs i = some v ∧ Q v H2) (hs : PlainIx c := by intro _ _; rfl) : eT X (.Subscript a c pos) σ H Q := we (pe_ix ix_tup peT peT hs) h
theorem e_slT {hi : Expr} (h : eT X a σ H fun v H1 => eT X hi σ H1 fun y H3 => ∃ k2 : Int, y = .int k2 ∧ ∃ ad xs, v = .ref ad ∧ SqL X.K H3 ad xs ∧ ∀ p, H3 p = none → Q (.ref p) (upd H3 p (.lst (cutV xs none (some k2))))) : eT X (.Subscript a (.Slice none (some hi) none p2) pos) σ H Q :=
  we (pe_slice sl_list peT po_none (po_some peT)) h
theorem b_ifQ (h : tT X c σ H fun b H1 => (b = true → bT X sts2 { D with nx := fun σ H => bT X rest D σ H } σ H1) ∧ (b = false → bT X els { D with nx := fun σ H => bT X rest D σ H } σ H1)) : bT X (.If c sts2 els pos :: rest) D σ H :=
  b_cons (ws (ps_if ptT pbT pbT) fun pins s I => thn (h pins s I) fun b s1 ⟨H1, I1, h1, h2⟩ => ⟨H1, I1, by
    cases b with
    | true => rw [if_pos rfl]; exact h1 rfl
    | false => rw [if_neg Bool.false_ne_true]; exact h2 rfl⟩)
theorem tt_not {Q : Bool → Hp → Prop} (h : tT X a σ H fun b H1 => Q (!b) H1) : tT X (.UnaryOp .Not a pos) σ H Q := wt (pt_not ptT) h
theorem tt_val {Q : Bool → Hp → Prop} (h : eT X a σ H fun v H1 => ∃ b, v = .bl b ∧ Q b H1) (he : ∀ whole, isTrue a X.env whole = (do let v ← whole; standAt a.pos; holding [v] (truthy v)) := by intro _; rfl) : tT X a σ H Q := wt (pt_val peT he) h
theorem call_repr_str : CallR X (.builtin "repr") (fun xs H Q => ∃ y : Str, xs = [.str y] ∧ (reprText y).length ≤ sizeLine ∧ Q (.str (reprText y)) H) := by
  intro pins s σ H xs us Q I r h
  obtain ⟨y, rfl, hz, q⟩ := h
  obtain ⟨u, rfl, t, rfl⟩ := vals1 r
  exact PySem.P.repr_of_str ⟨.str _, H, I.tok _, ⟨_, rfl⟩, q⟩ hz
end
end Lx
namespace Ls
open PySem PySem.Spec PyProof.Rows L2 Lx Ln
open Evl (Ex Ex.refl Ex.trans Ex.mut Ex.new Ev EvT EvL EvU EvA ex_l ex_t ex_rd sq_of st_of sz_of sz_lt fresh_back rv_I rv_I0)
open Lsm (Qn)
section
variable {P : Program} {wd : World} {K : PySem.W.Frag} {mg : Str → Option Value} {base : Heap}
/-- a promise with tokens, without them -/
theorem calT_cal {k : Nat} {x : Str} {sp : SpN} (M : CalT P wd K mg base k x sp) : C8.Cal P wd K mg base k x (fun vs H Q _ => sp vs H 0 (fun v H' _ => Q v H')) [] := by
  obtain ⟨f, fd, ps, F, h1, h2, b⟩ := M.ex
  refine ⟨f, fd, ps, [], ⟨fun vs H Q E h => F.len _ _ _ _ h, fun A outer s H args us vs Q E hr e0 hb r h => codeAny_mono (F.run A outer s H 0 args us vs (fun v H' _ => Q v H') hr e0 (Nat.zero_le _) hb r h) fun r s' ⟨N, _, cr⟩ => ?_⟩, h1, h2, b, .nil⟩
  cases r with
  | ok v => cases v with
    | ret u => exact cr
    | _ => exact (show False from cr).elim
  | error e => exact (show False from cr).elim
def spSame : Sp := fun vs H Q _ => ∃ b, vs = [.str (judS b), .str (judS b)] ∧ ∀ H', Ex H H' → Q (.bl true) H'
theorem rep_len (b : Bool) : (reprText (judS b)).length ≤ sizeLine := by cases b <;> decide +kernel
theorem ok_same (T : Tf K mg) : C8.Cal P wd K mg base 1 "_law_same" spSame [] := by
  refine cal_of (N := ["_law_found", "_law_due"]) T.d_law_same (by decide +kernel) (fun vs H Q E ⟨b, e, _⟩ => by rw [e]; rfl) fun f cdv A outer s H vs Q E hr nd h => ?_
  obtain ⟨b, rfl, q⟩ := h
  have br : bootBuiltins "repr" = some (.builtin "repr") := by decide +kernel
  exact b_ret (x_is (x_eqS (x_blt call_repr_str T.b_repr br (x_acons (x_var 0) x_anil) (z := .str (reprText (judS b))) fun H1 e1 Q q => ⟨_, rfl, rep_len b, q H1 (Ex.refl _)⟩) (x_blt call_repr_str T.b_repr br (x_acons (x_var 1) x_anil) (z := .str (reprText (judS b))) fun H1 e1 Q q => ⟨_, rfl, rep_len b, q H1 (Ex.refl _)⟩)) (by rw [decide_eq_true rfl])) q
theorem tabs_k2 {PT st l : Addr} {H H' : Hp} {n : Int} (t : LamX.Tabs (lamT PT) H) (s : Sm H st l n) (k : Keep2 st l H H') : LamX.Tabs (lamT PT) H' := fun p hp => by
  obtain ⟨ps, h1, h2, h3⟩ := t p hp
  obtain ⟨xs, c, m, s1, s2, _⟩ := s.ex
  refine ⟨ps, k _ _ (fun z => by rw [z, s1] at h1; cases h1) (fun z => by rw [z, s2] at h1; cases h1) h1, h2, fun pos cv hc => ?_⟩
  obtain ⟨d, e1, e2⟩ := h3 pos cv hc
  exact ⟨d, e1, k _ _ (fun z => by rw [z, s1] at e2; cases e2) (fun z => by rw [z, s2] at e2; cases e2) e2⟩
theorem Sm.extN {H H' : Hp} {st l : Addr} {n : Int} (s : Sm H st l n) (e : LamX.ExtN H H') : Sm H' st l n := let ⟨xs, c, m, h1, h2, h3⟩ := s.ex; ⟨⟨xs, c, m, e _ _ h1 (fun _ z => nomatch z), e _ _ h2 (fun _ z => nomatch z), h3⟩, s.n0⟩
theorem sqL_extN {H H' : Hp} {a : Addr} {xs : List V} (h : SqL K H a xs) (e : LamX.ExtN H H') : SqL K H' a xs := by
  rcases h with (h | ⟨o, h⟩) | h
  · exact .inl (.inl (e _ _ h (fun _ z => nomatch z)))
  · exact .inl (.inr ⟨o, e _ _ h (fun _ z => nomatch z)⟩)
  · exact .inr h
theorem BkAt.extN {H H' : Hp} {b : Addr} {A : BkA} {B : Bk} (h : BkAt K H b A B) (e : LamX.ExtN H H') : BkAt K H' b A B :=
  ⟨e _ _ h.hb (fun _ z => nomatch z), e _ _ h.hk (fun _ z => nomatch z), e _ _ h.hc (fun _ z => nomatch z), Paired.mapP h.hv fun v c ⟨p, dx, h1, h2⟩ => ⟨p, dx, h1, e _ _ h2 (fun _ z => nomatch z)⟩, sqL_extN h.ho e⟩
theorem BkAt.k2 {H H' : Hp} {st l b : Addr} {n : Int} {A : BkA} {B : Bk} (h : BkAt K H b A B) (s : Sm H st l n) (k : Keep2 st l H H') (n5 : A.l5 ≠ st ∧ A.l5 ≠ l) : BkAt K H' b A B := by
  refine ⟨k _ _ (s.ins h.hb).1 (s.ins h.hb).2 h.hb, k _ _ (s.dK h.hk).1 (s.dK h.hk).2 h.hk, k _ _ (s.dK h.hc).1 (s.dK h.hc).2 h.hc, Paired.mapP h.hv fun v c ⟨p, dx, h1, h2⟩ => ⟨p, dx, h1, k _ _ (s.ins h2).1 (s.ins h2).2 h2⟩, ?_⟩
  rcases h.ho with (h | ⟨o, h⟩) | h
  · exact .inl (.inl (k _ _ n5.1 n5.2 h))
  · exact .inl (.inr ⟨o, k _ _ n5.1 n5.2 h⟩)
  · exact .inr h
theorem mkb_own {B : Bk} {cs : List Str} {k : Str} : Mkb (ownB B cs) k ↔ Mkb B k := by
  constructor
  · intro h
    induction h with
    | op h => exact .op h
    | fl h f _ ih => exact .fl h f ih
  · intro h
    induction h with
    | op h => exact .op h
    | fl h f _ ih => exact .fl (B := ownB B cs) h f ih
def spLaw (K : PySem.W.Frag) (PT : Addr) : Sp := fun vs H Q _ => ∃ a ns, vs = [.ref a] ∧ SqL K H a ((ns : List Int).map V.int) ∧ ns.length ≤ 1000 ∧ LamX.Tabs (lamT PT) H ∧ ∀ H', Q (.bl true) H'
set_option maxHeartbeats 4000000 in
theorem ok_law (T : Tf K mg) (S : TfS P K) (I : TfI K) (NA : NumAt K wd mg) {c PT : Addr} (F : DFC K mg "table" (top 60) ["book", "question"] c) (TB : LamX.TabB base mg c PT) {f : Addr} {fd : FuncData} (FF : C8.Fun K "law" "law" (top 103) f fd) : FnOk P wd K mg base C8.CX0 10 f fd ["_law_script"] (spLaw K PT) := by
  refine C8.fn0 (N := ["_law_script", "_law_stream", "_law_turn", "_law_b", "_law_book", "_law_question"]) FF (C8.fnScope_by (by decide +kernel)) (fun vs H Q E ⟨a, ns, e, _⟩ => by rw [e]; rfl) fun cdv A outer s H vs Q E hr h => ⟨_, pbT, ?_⟩
  have nd : (["_law_script", "_law_stream", "_law_turn", "_law_b", "_law_book", "_law_question"] : List Str).Nodup := by decide
  obtain ⟨a, ns, rfl, hx, ln, hT, q⟩ := h
  refine b_setQ 1 (e_lstQ (a_cons (e_l (xl_listOf T.b_list (x_var 0) (.inl hx)) fun l H1 l0 e1 hl => a_cons (e_x x_int fun H2 e2 => a_cons (e_x x_int fun H3 e3 => a_cons (e_x x_int fun H4 e4 => a_nil ⟨show 4 ≤ 100000 by decide, fun st st0 => ?_⟩))))))
  have e14 := ((e1.trans e2).trans e3).trans e4
  have hl4 := (e2.trans (e3.trans e4)) _ _ hl
  have S0 : Sm (upd H4 st (.lst [.ref l, .int 0, .int 0, .int 0])) st l 0 := ⟨⟨ns, 0, 0, upd_same, by rw [upd_ne (fun z => by rw [z, st0] at hl4; cases hl4)]; exact hl4, by decide, by decide, by decide⟩, by decide⟩
  have T0 : LamX.Tabs (lamT PT) (upd H4 st (.lst [.ref l, .int 0, .int 0, .int 0])) := hT.ext (e14.trans (Ex.new st0))
  generalize upd H4 st (.lst [.ref l, .int 0, .int 0, .int 0]) = G at S0 T0 ⊢
  refine b_forR T.b_range x_int (by decide) (pg_name (i := 2) nd rfl (.inl rfl)) (fun i σ' H' => ∃ (x2 x3 x4 x5 : Option V) (n' : Int), σ' = [some (.ref a), some (.ref st), x2, x3, x4, x5] ∧ Sm H' st l n' ∧ n' ≤ 2000 * i ∧ LamX.Tabs (lamT PT) H') (fun H5 e5 => ⟨none, none, none, none, 0, rfl, S0.keep e5, by omega, T0.ext e5⟩) ?_ fun σ' H' _ => b_ret x_bl fun H6 e6 => q H6
  rintro i σ' H5 hi ⟨x2, x3, x4, x5, n', rfl, S5, b5, T5⟩
  have n0 := S5.n0
  refine b_setQ 3 (e_call (ok_rules T) hr (a_cons (e_x (x_var 1) fun H6 e6 => a_cons (e_x x_int fun H7 e7 => a_cons (e_x x_int fun H8 e8 => a_nil ⟨st, l, n', 3, 4, rfl, S5.keep ((e6.trans e7).trans e8), by decide, by decide, by decide, by decide, by omega, fun L B cs n1 H9 k9 s9 c1 c2 hL O im => ?_⟩)))))
  have k59 : Keep2 st l H5 H9 := (Keep2.of_ex ((e6.trans e7).trans e8)).trans k9
  have T9 := tabs_k2 T5 S5 k59
  refine b_setN 4 (xn_call (ok_made T) hr (x_acons (x_var 3) x_anil) (R := fun p H' => ∃ A, H9 A.l5 = none ∧ BkAt K H' p A (ownB B cs)) fun H10 e10 Q q => ⟨st, l, L, B, cs, rfl, hL.ex e10, O, im, fun p A H' p0 e h5 h => q p H' p0 e ⟨A, fresh_back e10 h5, h⟩⟩) fun bk H10 bk0 e10 ⟨A, a5, hA⟩ => ?_
  have n5 := s9.new a5
  have S10 := s9.keep e10
  have L10 := hL.ex e10
  have T10 := T9.ext e10
  refine b_forQ (pg_name (i := 5) nd rfl (.inl rfl)) (e_slT (e_call (ok_mixed T) hr (a_cons (e_x (x_var 1) fun H11 e11 => a_cons (e_n (xn_call (ok_lqs T) hr (x_acons (x_var 3) x_anil) (R := fun p H' => ∃ qs : List Str, H' p = some (.lst (qs.map V.str)) ∧ (∀ s ∈ qs, ∃ qu : Qu, qu.ok B ∧ s = qu.t) ∧ qs.length ≤ 100) fun H12 e12 Q q => ⟨st, l, L, B, cs, rfl, L10.ex (e11.trans e12), O, fun r qs H' r0 e h1 h2 h3 => q r H' r0 e ⟨qs, h1, h2, h3⟩⟩) fun pq H12 pq0 e12 ⟨qs, hq1, hq2, hq3⟩ => a_nil ⟨st, l, n1, pq, qs.map V.str, rfl, S10.keep (e11.trans e12), sq_of hq1, by rw [List.length_map]; omega, by omega, fun r ys H13 r0 k13 s13 hr13 lys hys => e_x x_int fun H14 e14' => ⟨4, rfl, r, ys, rfl, sq_of (e14' _ _ hr13), fun sl sl0 => ?_⟩⟩)))))
  have k1014 : Keep2 st l H10 H14 := ((Keep2.of_ex (e11.trans e12)).trans k13).trans (Keep2.of_ex e14')
  have S14 := s13.keep e14'
  rw [List.length_map] at S14
  have L14 := L10.k2 S10 k1014
  have T14 := tabs_k2 T10 S10 k1014
  have A14 := hA.k2 S10 k1014 n5
  have E15 : Ex H14 (upd H14 sl (.lst (cutV ys none (some 4)))) := Ex.new sl0
  have hcut : ∀ y ∈ cutV ys none (some 4), ∃ qu : Qu, qu.ok B ∧ y = .str qu.t := fun y hy => by
    have := hys y (List.mem_of_mem_drop (List.mem_of_mem_take hy))
    obtain ⟨s, hs, rfl⟩ := List.mem_map.mp this
    obtain ⟨qu, h1, rfl⟩ := hq2 s hs
    exact ⟨qu, h1, rfl⟩
  have Oo : BkOk (ownB B cs) := ⟨O.nm, O.nd, O.cs, O.l1, O.l2⟩
  let mk : Str → Bool := fun k => decide (k ∈ mkIt B B.kinds.length)
  have hmk : ∀ k, mk k = true ↔ Mkb B k := fun k => by rw [← mkIt_iff O k]; exact decide_eq_true_iff
  refine ⟨sl, _, fun j σ' H' => ∃ x5, σ' = [some (.ref a), some (.ref st), some (.int (i : Nat)), some (.ref L.bb), some (.ref bk), x5] ∧ Sm H' st l (n1 + qs.length) ∧ LamX.Tabs (lamT PT) H' ∧ LbAt st l L B cs H' ∧ BkAt K H' bk A (ownB B cs) ∧ H' sl = some (.lst (cutV ys none (some 4))), rfl, ⟨x5, rfl, S14.keep E15, T14.ext E15, L14.ex E15, A14.mono E15, upd_same⟩, fun j σ' H' ⟨_, _, _, _, _, _, h⟩ => sq_of h, ?_, ?_⟩
  · rintro j y σ' H15 hy ⟨x5', rfl, s15, t15, l15, a15, hsl⟩
    obtain ⟨qu, hqu, rfl⟩ := hcut y (List.mem_of_getElem? hy)
    have hqo : qu.ok (ownB B cs) := by
      cases qu with
      | kind k => exact hqu
      | col n c => exact hqu
    refine b_ifQ (tt_not (tt_val (e_call (ok_same T) hr (a_cons (e_ixT (e_call (calT_cal (ok_judge T S I NA F TB)) hr (a_cons (e_x (x_var 4) fun H16 e16 => a_cons (e_x (x_var 5) fun H17 e17 => a_nil ⟨bk, A, ownB B cs, qu, mk, rfl, a15.mono (e16.trans e17), Oo, hqo, t15.ext (e16.trans e17), fun k => (hmk k).trans mkb_own.symm, fun r v H18 _ eN t18 hr18 => e_x x_int fun H19 e19 => ⟨r, _, 0, .str (judS (condB mk (ownB B cs) qu)), rfl, rfl, st_of (e19 _ _ hr18), by rfl, a_cons (e_x (v := .str (judS (condB mk (ownB B cs) qu))) (x_ifE (t_val (x_call (ok_comes T) hr (x_acons (x_var 3) (x_acons (x_var 5) x_anil)) (z := .bl (condB mk (ownB B cs) qu)) ?_)) (fun h => ?_) fun h => ?_) fun H20 e20 => a_nil ⟨condB mk (ownB B cs) qu, rfl, fun H21 e21 => ⟨true, rfl, And.intro (fun h => absurd (show (false : Bool) = true from h) Bool.false_ne_true) fun _ => b_nil (b_nil ?_)⟩⟩)⟩⟩)))))))))
    all_goals have eN' : LamX.ExtN H15 H19 := ((LamX.ExtN.of (e16.trans e17)).trans eN).trans (LamX.ExtN.of e19)
    · exact fun H20 e20 Q q => ⟨st, l, L, B, cs, qu, mk, rfl, (l15.extN eN').ex e20, O, hqu, im, hmk, q⟩
    · rw [h]; exact x_str
    · rw [h]; exact x_str
    · have e2 := e20.trans e21
      exact ⟨_, rfl, (s15.extN eN').keep e2, (t18.ext (e19.trans e2)), (l15.extN eN').ex e2, (a15.extN eN').mono e2, e2 _ _ (eN' _ _ hsl (fun _ z => nomatch z))⟩
  · rintro σ' H15 ⟨x5', rfl, s15, t15, l15, a15, hsl⟩
    exact b_nil ⟨_, _, _, _, _, rfl, s15, by omega, t15⟩
end
end Ls
/-! LsHd -/
set_option Elab.async false
set_option linter.all false
set_option maxRecDepth 100000
namespace Ls
open PySem PySem.Spec PyProof.Rows L2 Lx Ln
open Evl (Ex Ex.refl Ex.trans Ex.mut Ex.new ex_l ex_t sq_of st_of sz_of)

/-! ### the facts, one by one -/
structure ExP (K : PySem.W.Frag) : Prop where
  here : He.tupB K "HERE" [.str "plain", .str "marked", .str "other"] = true
  vals : He.valsB K (He.ga K "NUMBERS") [("x", .int 0), ("y", .int 1), ("z", .int 2)] = true
  isK : isB K (cK K) = true
  isW : isB K (cW K) = true
  get : He.eqO (PySem.W.specialIn K (.builtin "object.__class__") "__get__") (some (some (.builtin "getset_descriptor.__get__"))) = true
  tak : decide (PySem.W.takesIn K (.builtin "object.__class__") = some true) = true
  kit : decide (PySem.W.kitOne K (.ref (cK K)) (.ref (cW K)) = some false) = true
  sup : supB K LR.prog.main.file = true
  cls : (PySem.W.clsIn K (cW K)).isSome = true
  mro : decide (PySem.W.mroIn K (cW K) (.ref (cW K)) = some true) = true
  opq : He.eqO (PySem.W.nsIn K cStatics "thirdparty.any") (some none) = true
  spi : He.eqO (PySem.W.ks_superIn K (cW K) (cW K) "__init__") (some (some (.ref (fWI K)))) = true
  tyf : decide (PySem.W.typeIn K (.ref (fWI K)) = some (.type "function")) = true
  fni : PySem.W.fnIn K (fWI K) = true
section
variable {w : World} {h : Heap} {K : PySem.W.Frag} {mg : Str → Option Value}
theorem exP (c : SaysL w h K) : ExP K := by
  have e := c.more
  unfold exL at e
  obtain ⟨e1, e⟩ := He.ba e
  obtain ⟨e2, e⟩ := He.ba e
  obtain ⟨e3, e⟩ := He.ba e
  obtain ⟨e4, e⟩ := He.ba e
  obtain ⟨e5, e⟩ := He.ba e
  obtain ⟨e6, e⟩ := He.ba e
  obtain ⟨e7, e⟩ := He.ba e
  obtain ⟨e8, e⟩ := He.ba e
  obtain ⟨e9, e⟩ := He.ba e
  obtain ⟨e10, e⟩ := He.ba e
  obtain ⟨e11, e⟩ := He.ba e
  obtain ⟨e12, e⟩ := He.ba e
  obtain ⟨e13, e14⟩ := He.ba e
  exact ⟨e1, e2, e3, e4, e5, e6, e7, e8, e9, e10, e11, e12, e13, e14⟩
theorem fun_of {x q : Str} {st : Stmt} {dvs : List V} {kws : List (Str × V)} {f : Addr} {fd : FuncData} (F : FunD K x q (C8.fnArgs st) (C8.fnBody st) (C8.fnScope st) dvs kws f fd) : C8.Fun K x q st f fd := by
  obtain ⟨oc, od, dV, kV, doc, pm, an, cdv, ct, osl, h1, h2, h3, _, _⟩ := F.ex
  exact ⟨oc, od, dV, kV, doc, pm, an, cdv, ct, osl, h1, h2, h3⟩
theorem df_of {x : Str} {i : Nat} {ps : List Str} (X : K.In h) (G : h.Ns mainGlobals mg) (c : He.SaysD faL fnL K) (a b : Nat) (ha : faL[a]? = some (.glo x)) (hb : fnL[b]? = some (dG x i))
    (hbind : ∀ (kV doc pm : Value) (an : Option Addr) (cdv ct : Value) (us : List Value), us.length = ps.length → bindArgs (PySem.W.fnOf x x (C8.fnArgs (top i)) (C8.fnBody (top i)) (C8.fnScope (top i)) .none kV doc pm an cdv ct) ⟨us, []⟩ = pure (ps.zip us)) : DF K mg x (top i) ps := by
  obtain ⟨fd, F⟩ := c.def_ b hb
  exact ⟨_, fd, ⟨fun_of F, He.glo_ok X G (c.fact a ha), F.kp⟩, FunD.bindsN F hbind⟩
theorem mf_of {C m q : Str} {i j : Nat} {ps : List Str} (c : He.SaysD faL fnL K) (k a b : Nat) (hk : faL[k]? = some (.cls C)) (ha : faL[a]? = some (.meth C m)) (hb : fnL[b]? = some (dM C m q i j))
    (hbind : ∀ (kV doc pm : Value) (an : Option Addr) (cdv ct : Value) (us : List Value), us.length = ps.length → bindArgs (PySem.W.fnOf m q (C8.fnArgs (meth i j)) (C8.fnBody (meth i j)) (C8.fnScope (meth i j)) .none kV doc pm an cdv ct) ⟨us, []⟩ = pure (ps.zip us)) : MF K (He.ga K C) m q (meth i j) ps := by
  obtain ⟨fd, F⟩ := c.def_ b hb
  exact ⟨He.cls_ok (c.fact k hk), _, fd, He.meth_ok (c.fact a ha), fun_of F, FunD.bindsN F hbind⟩
set_option maxHeartbeats 4000000 in
theorem mf_book (c : He.SaysD faL fnL K) (k a b : Nat) (hk : faL[k]? = some (.cls "Book")) (ha : faL[a]? = some (.meth "Book" "__init__")) (hb : fnL[b]? = some { dM "Book" "__init__" "Book.__init__" 40 0 with dfl := [.adr (He.dflAt ("Book", some "__init__") 0), .adr (He.dflAt ("Book", some "__init__") 1)] }) : MF K (He.ga K "Book") "__init__" "Book.__init__" (meth 40 0) ["self", "kinds", "columns", "checks"] := by
  obtain ⟨fd, F⟩ := c.def_ b hb
  obtain ⟨ds, hd, hB⟩ := FunD.binds1 (ps := ["self", "kinds", "columns", "checks"]) F 4 2 (by exact List.cons_ne_nil _ _) rfl fun T kV doc pm an cdv ct us its hu hi => match us, hu, its, hi with
    | [_, _, _, _], _, [_, _], _ => ⟨_, rfl, rfl⟩
  cases hd
  exact ⟨He.cls_ok (c.fact k hk), _, fd, He.meth_ok (c.fact a ha), fun_of F, hB⟩
set_option maxHeartbeats 8000000 in
theorem tf_of (X : K.In h) (G : h.Ns mainGlobals mg) (c : SaysL w h K) : Tf K mg where
  d_is_name := df_of X G c.t.d 0 0 rfl rfl fun _ _ _ _ _ _ us hl => match us, hl with | [_], _ => rfl
  d_stands_in := df_of X G c.t.d 1 1 rfl rfl fun _ _ _ _ _ _ us hl => match us, hl with | [_, _], _ => rfl
  d_check_fresh := df_of X G c.t.d 2 2 rfl rfl fun _ _ _ _ _ _ us hl => match us, hl with | [_, _], _ => rfl
  d_kinds_of := df_of X G c.t.d 3 3 rfl rfl fun _ _ _ _ _ _ us hl => match us, hl with | [_], _ => rfl
  d_column_rows_of := df_of X G c.t.d 4 4 rfl rfl fun _ _ _ _ _ _ us hl => match us, hl with | [_, _], _ => rfl
  d_checks_of := df_of X G c.t.d 5 5 rfl rfl fun _ _ _ _ _ _ us hl => match us, hl with | [_, _], _ => rfl
  d_menu_of := df_of X G c.t.d 6 6 rfl rfl fun _ _ _ _ _ _ us hl => match us, hl with | [_, _], _ => rfl
  d_lacking := df_of X G c.t.d 7 7 rfl rfl fun _ _ _ _ _ _ us hl => match us, hl with | [_, _], _ => rfl
  d_watch_of := df_of X G c.t.d 8 8 rfl rfl fun _ _ _ _ _ _ us hl => match us, hl with | [_, _], _ => rfl
  d_checked_question := df_of X G c.t.d 9 9 rfl rfl fun _ _ _ _ _ _ us hl => match us, hl with | [_, _], _ => rfl
  d_behind_all := df_of X G c.t.d 10 10 rfl rfl fun _ _ _ _ _ _ us hl => match us, hl with | [_, _], _ => rfl
  d_table := df_of X G c.t.d 11 11 rfl rfl fun _ _ _ _ _ _ us hl => match us, hl with | [_, _], _ => rfl
  d_way_to_fault := df_of X G c.t.d 12 12 rfl rfl fun _ _ _ _ _ _ us hl => match us, hl with | [_, _], _ => rfl
  d_chain_up := df_of X G c.t.d 13 13 rfl rfl fun _ _ _ _ _ _ us hl => match us, hl with | [_, _], _ => rfl
  d_put_chain := df_of X G c.t.d 14 14 rfl rfl fun _ _ _ _ _ _ us hl => match us, hl with | [_, _], _ => rfl
  d_mark_by_chain := df_of X G c.t.d 15 15 rfl rfl fun _ _ _ _ _ _ us hl => match us, hl with | [_, _, _], _ => rfl
  d_judge := df_of X G c.t.d 16 16 rfl rfl fun _ _ _ _ _ _ us hl => match us, hl with | [_, _], _ => rfl
  d_law_draw := df_of X G c.t.d 17 17 rfl rfl fun _ _ _ _ _ _ us hl => match us, hl with | [_, _], _ => rfl
  d_law_pick := df_of X G c.t.d 18 18 rfl rfl fun _ _ _ _ _ _ us hl => match us, hl with | [_, _], _ => rfl
  d_law_mixed := df_of X G c.t.d 19 19 rfl rfl fun _ _ _ _ _ _ us hl => match us, hl with | [_, _], _ => rfl
  d_law_same := df_of X G c.t.d 20 20 rfl rfl fun _ _ _ _ _ _ us hl => match us, hl with | [_, _], _ => rfl
  d_law_fresh := df_of X G c.t.d 21 21 rfl rfl fun _ _ _ _ _ _ us hl => match us, hl with | [_, _], _ => rfl
  d_law_names := df_of X G c.t.d 22 22 rfl rfl fun _ _ _ _ _ _ us hl => match us, hl with | [_, _], _ => rfl
  d_law_shape := df_of X G c.t.d 23 23 rfl rfl fun _ _ _ _ _ _ us hl => match us, hl with | [_, _, _], _ => rfl
  d_law_all_checks := df_of X G c.t.d 24 24 rfl rfl fun _ _ _ _ _ _ us hl => match us, hl with | [_], _ => rfl
  d_law_checked := df_of X G c.t.d 25 25 rfl rfl fun _ _ _ _ _ _ us hl => match us, hl with | [_, _], _ => rfl
  d_law_rules := df_of X G c.t.d 26 26 rfl rfl fun _ _ _ _ _ _ us hl => match us, hl with | [_, _, _], _ => rfl
  d_law_made := df_of X G c.t.d 27 27 rfl rfl fun _ _ _ _ _ _ us hl => match us, hl with | [_], _ => rfl
  d_law_by := df_of X G c.t.d 28 28 rfl rfl fun _ _ _ _ _ _ us hl => match us, hl with | [_, _], _ => rfl
  d_law_markable := df_of X G c.t.d 29 29 rfl rfl fun _ _ _ _ _ _ us hl => match us, hl with | [_], _ => rfl
  d_law_checks := df_of X G c.t.d 30 30 rfl rfl fun _ _ _ _ _ _ us hl => match us, hl with | [_, _, _], _ => rfl
  d_law_questions := df_of X G c.t.d 31 31 rfl rfl fun _ _ _ _ _ _ us hl => match us, hl with | [_], _ => rfl
  d_law_comes := df_of X G c.t.d 32 32 rfl rfl fun _ _ _ _ _ _ us hl => match us, hl with | [_, _], _ => rfl
  d_law := df_of X G c.t.d 33 33 rfl rfl fun _ _ _ _ _ _ us hl => match us, hl with | [_], _ => rfl
  m_C_init := mf_of c.t.d 34 39 34 rfl rfl rfl fun _ _ _ _ _ _ us hl => match us, hl with | [_, _, _, _, _], _ => rfl
  m_B_init := mf_book c.t.d 35 40 35 rfl rfl rfl
  m_B_columns_of := mf_of c.t.d 35 41 36 rfl rfl rfl fun _ _ _ _ _ _ us hl => match us, hl with | [_, _], _ => rfl
  m_B_markable := mf_of c.t.d 35 42 37 rfl rfl rfl fun _ _ _ _ _ _ us hl => match us, hl with | [_], _ => rfl
  m_B_questions := mf_of c.t.d 35 43 38 rfl rfl rfl fun _ _ _ _ _ _ us hl => match us, hl with | [_], _ => rfl
  m_B_contains := mf_of c.t.d 35 44 39 rfl rfl rfl fun _ _ _ _ _ _ us hl => match us, hl with | [_, _], _ => rfl
  m_K_has := mf_of c.t.d 36 45 40 rfl rfl rfl fun _ _ _ _ _ _ us hl => match us, hl with | [_, _, _], _ => rfl
  m_K_may_mark := mf_of c.t.d 36 46 41 rfl rfl rfl fun _ _ _ _ _ _ us hl => match us, hl with | [_, _, _], _ => rfl
  m_K_may_put := mf_of c.t.d 36 47 42 rfl rfl rfl fun _ _ _ _ _ _ us hl => match us, hl with | [_, _], _ => rfl
  m_K_with_letter := mf_of c.t.d 36 48 43 rfl rfl rfl fun _ _ _ _ _ _ us hl => match us, hl with | [_, _, _], _ => rfl
  m_K_list_labels := mf_of c.t.d 36 49 44 rfl rfl rfl fun _ _ _ _ _ _ us hl => match us, hl with | [_], _ => rfl
  m_W_has := mf_of c.t.d 37 50 45 rfl rfl rfl fun _ _ _ _ _ _ us hl => match us, hl with | [_, _, _], _ => rfl
  m_W_may_mark := mf_of c.t.d 37 51 46 rfl rfl rfl fun _ _ _ _ _ _ us hl => match us, hl with | [_, _, _], _ => rfl
  m_W_may_put := mf_of c.t.d 37 52 47 rfl rfl rfl fun _ _ _ _ _ _ us hl => match us, hl with | [_, _], _ => rfl
  m_W_with_letter := mf_of c.t.d 37 53 48 rfl rfl rfl fun _ _ _ _ _ _ us hl => match us, hl with | [_, _, _], _ => rfl
  m_W_list_labels := mf_of c.t.d 37 54 49 rfl rfl rfl fun _ _ _ _ _ _ us hl => match us, hl with | [_], _ => rfl
  m_K_init := mf_of c.t.d 36 55 50 rfl rfl rfl fun _ _ _ _ _ _ us hl => match us, hl with | [_, _, _], _ => rfl
  m_K_begin := mf_of c.t.d 36 56 51 rfl rfl rfl fun _ _ _ _ _ _ us hl => match us, hl with | [_], _ => rfl
  m_K_labels := mf_of c.t.d 36 57 52 rfl rfl rfl fun _ _ _ _ _ _ us hl => match us, hl with | [_], _ => rfl
  m_K_outcome := mf_of c.t.d 36 58 53 rfl rfl rfl fun _ _ _ _ _ _ us hl => match us, hl with | [_, _, _], _ => rfl
  m_K_is_fault := mf_of c.t.d 36 59 54 rfl rfl rfl fun _ _ _ _ _ _ us hl => match us, hl with | [_, _, _, _], _ => rfl
  m_W_begin := mf_of c.t.d 37 60 55 rfl rfl rfl fun _ _ _ _ _ _ us hl => match us, hl with | [_], _ => rfl
  m_W_labels := mf_of c.t.d 37 61 56 rfl rfl rfl fun _ _ _ _ _ _ us hl => match us, hl with | [_], _ => rfl
  m_W_first_other := mf_of c.t.d 37 62 57 rfl rfl rfl fun _ _ _ _ _ _ us hl => match us, hl with | [_], _ => rfl
  m_W_outcome := mf_of c.t.d 37 63 58 rfl rfl rfl fun _ _ _ _ _ _ us hl => match us, hl with | [_, _, _], _ => rfl
  m_W_may_refer := mf_of c.t.d 37 64 59 rfl rfl rfl fun _ _ _ _ _ _ us hl => match us, hl with | [_, _, _, _], _ => rfl
  m_W_put_behind := mf_of c.t.d 37 65 60 rfl rfl rfl fun _ _ _ _ _ _ us hl => match us, hl with | [_, _, _, _], _ => rfl
  m_W_turned := mf_of c.t.d 37 66 61 rfl rfl rfl fun _ _ _ _ _ _ us hl => match us, hl with | [_, _, _], _ => rfl
  m_W_marked_behind := mf_of c.t.d 37 67 62 rfl rfl rfl fun _ _ _ _ _ _ us hl => match us, hl with | [_, _, _], _ => rfl
  m_W_fitting := mf_of c.t.d 37 68 63 rfl rfl rfl fun _ _ _ _ _ _ us hl => match us, hl with | [_, _, _], _ => rfl
  m_W_looked := mf_of c.t.d 37 69 64 rfl rfl rfl fun _ _ _ _ _ _ us hl => match us, hl with | [_, _, _], _ => rfl
  m_W_done_behind := mf_of c.t.d 37 70 65 rfl rfl rfl fun _ _ _ _ _ _ us hl => match us, hl with | [_, _, _], _ => rfl
  m_W_is_fault := mf_of c.t.d 37 71 66 rfl rfl rfl fun _ _ _ _ _ _ us hl => match us, hl with | [_, _, _, _], _ => rfl
  m_V_init := mf_of c.t.d 38 72 67 rfl rfl rfl fun _ _ _ _ _ _ us hl => match us, hl with | [_, _, _], _ => rfl
  m_V_kind_at := mf_of c.t.d 38 73 68 rfl rfl rfl fun _ _ _ _ _ _ us hl => match us, hl with | [_, _], _ => rfl
  m_V_chain_of := mf_of c.t.d 38 74 69 rfl rfl rfl fun _ _ _ _ _ _ us hl => match us, hl with | [_, _], _ => rfl
  m_V_is_marked_behind := mf_of c.t.d 38 75 70 rfl rfl rfl fun _ _ _ _ _ _ us hl => match us, hl with | [_, _, _], _ => rfl
  m_V_put_row := mf_of c.t.d 38 76 71 rfl rfl rfl fun _ _ _ _ _ _ us hl => match us, hl with | [_, _], _ => rfl
  m_V_mark_row := mf_of c.t.d 38 77 72 rfl rfl rfl fun _ _ _ _ _ _ us hl => match us, hl with | [_, _], _ => rfl
  m_V_look_for := mf_of c.t.d 38 78 73 rfl rfl rfl fun _ _ _ _ _ _ us hl => match us, hl with | [_, _], _ => rfl
  m_V_woven := mf_of c.t.d 38 79 74 rfl rfl rfl fun _ _ _ _ _ _ us hl => match us, hl with | [_], _ => rfl
  cl_C := He.cls_ok (c.t.d.fact 34 rfl)
  cl_B := He.cls_ok (c.t.d.fact 35 rfl)
  cl_K := He.cls_ok (c.t.d.fact 36 rfl)
  cl_W := He.cls_ok (c.t.d.fact 37 rfl)
  cl_V := He.cls_ok (c.t.d.fact 38 rfl)
  nC_word := He.noat_ok (c.t.d.fact 80 rfl)
  nC_home := He.noat_ok (c.t.d.fact 81 rfl)
  nC_goal := He.noat_ok (c.t.d.fact 82 rfl)
  nC_rule := He.noat_ok (c.t.d.fact 83 rfl)
  nB_open_kinds := He.noat_ok (c.t.d.fact 84 rfl)
  nB_column_rows := He.noat_ok (c.t.d.fact 85 rfl)
  nB_column_table := He.noat_ok (c.t.d.fact 86 rfl)
  nB_all_checks := He.noat_ok (c.t.d.fact 87 rfl)
  nB_own_checks := He.noat_ok (c.t.d.fact 88 rfl)
  nK_law_book := He.noat_ok (c.t.d.fact 89 rfl)
  nK_home := He.noat_ok (c.t.d.fact 90 rfl)
  nK_can_mark := He.noat_ok (c.t.d.fact 91 rfl)
  nK_sorts := He.noat_ok (c.t.d.fact 92 rfl)
  nW_law_book := He.noat_ok (c.t.d.fact 93 rfl)
  nW_home := He.noat_ok (c.t.d.fact 94 rfl)
  nW_can_mark := He.noat_ok (c.t.d.fact 95 rfl)
  nW_sorts := He.noat_ok (c.t.d.fact 96 rfl)
  nW_by := He.noat_ok (c.t.d.fact 97 rfl)
  nW_goal := He.noat_ok (c.t.d.fact 98 rfl)
  nW_other_column := He.noat_ok (c.t.d.fact 99 rfl)
  nV_watch := He.noat_ok (c.t.d.fact 100 rfl)
  nV_way := He.noat_ok (c.t.d.fact 101 rfl)
  nV_made := He.noat_ok (c.t.d.fact 102 rfl)
  nV_held := He.noat_ok (c.t.d.fact 103 rfl)
  nV_chains := He.noat_ok (c.t.d.fact 104 rfl)
  nV_unused := He.noat_ok (c.t.d.fact 105 rfl)
  k_C := ⟨_, He.mkr_ok (c.t.d.fact 106 rfl)⟩
  g_C := He.glo_ok X G (c.t.d.fact 107 rfl)
  k_B := ⟨_, He.mkr_ok (c.t.d.fact 108 rfl)⟩
  g_B := He.glo_ok X G (c.t.d.fact 109 rfl)
  k_K := ⟨_, He.mkr_ok (c.t.d.fact 110 rfl)⟩
  g_K := He.glo_ok X G (c.t.d.fact 111 rfl)
  k_W := ⟨_, He.mkr_ok (c.t.d.fact 112 rfl)⟩
  g_W := He.glo_ok X G (c.t.d.fact 113 rfl)
  k_V := ⟨_, He.mkr_ok (c.t.d.fact 114 rfl)⟩
  g_V := He.glo_ok X G (c.t.d.fact 115 rfl)
  b_len := He.free_ok X G (c.t.d.fact 116 rfl)
  b_isinstance := He.free_ok X G (c.t.d.fact 117 rfl)
  b_str := He.free_ok X G (c.t.d.fact 118 rfl)
  b_all := He.free_ok X G (c.t.d.fact 119 rfl)
  b_list := He.free_ok X G (c.t.d.fact 120 rfl)
  b_sorted := He.free_ok X G (c.t.d.fact 121 rfl)
  b_range := He.free_ok X G (c.t.d.fact 122 rfl)
  b_reversed := He.free_ok X G (c.t.d.fact 123 rfl)
  b_tuple := He.free_ok X G (c.t.d.fact 124 rfl)
  b_min := He.free_ok X G (c.t.d.fact 125 rfl)
  b_int := He.free_ok X G (c.t.d.fact 126 rfl)
  b_enumerate := He.free_ok X G (c.t.d.fact 127 rfl)
  b_repr := He.free_ok X G (c.t.d.fact 128 rfl)
  b_super := He.free_ok X G (c.t.d.fact 129 rfl)
  s_FALL := He.str_ok X G (c.t.d.fact 130 rfl)
  s_CLEAR := He.str_ok X G (c.t.d.fact 131 rfl)
  s_STRUCK := He.str_ok X G (c.t.d.fact 132 rfl)
  s_LETTERS := He.str_ok X G (c.t.d.fact 133 rfl)
  s_HELPER := He.int_ok X G (c.t.d.fact 134 rfl)
  t_HERE := ⟨_, He.glo_ok X G (c.t.d.fact 135 rfl), fun H => He.tupB_ok (exP c).here H⟩
theorem tfI_of (c : SaysL w h K) : TfI K := by
  have e := exP c
  obtain ⟨k1, k2⟩ := He.ba e.isK
  obtain ⟨w1, w2⟩ := He.ba e.isW
  refine ⟨fun C hC => ?_, of_decide_eq_true e.kit⟩
  rcases hC with rfl | rfl
  · exact ⟨He.eqO_ok k1, He.eqO_ok e.get, of_decide_eq_true e.tak, of_decide_eq_true k2⟩
  · exact ⟨He.eqO_ok w1, He.eqO_ok e.get, of_decide_eq_true e.tak, of_decide_eq_true w2⟩
theorem tfS_of (c : SaysL w h K) (u : fnU K = valU) : TfS LR.prog K := by
  have e := exP c
  obtain ⟨fd2, F2⟩ := c.t.d.def_ 75 (d := dM "Watch" "__init__" "Watch.__init__" 53 0) rfl
  refine ⟨fCW K, He.mkr_ok (x := "ColumnWatch") (c.t.d.fact 112 rfl), ?_⟩
  have es := e.sup
  obtain ⟨cd, hcd⟩ := Option.isSome_iff_exists.mp e.cls
  unfold supB at es
  unfold fnU at u
  cases q : K.lookup (fCW K) with
  | none => rw [q] at es; cases es
  | some o =>
    obtain ⟨oc, od, dt, osl⟩ := o
    rw [q] at es u
    cases dt with
    | func fd =>
      obtain ⟨n1, n2, n3, n4, n5, n6, n7, n8, n9, n10, n11, n12, n13, n14, n15⟩ := fd
      have u2 : (some (n1, n2, n3, n4, n5, n6, n7.map (·.1), n15, isNoneV n8) : FnU) = valU := u
      unfold valU at u2
      simp only [Option.some.injEq, Prod.mk.injEq] at u2
      obtain ⟨h1, h2, h3, h4, h5, h6, h7, h8, h9⟩ := u2
      subst h1 h2 h3 h4 h5 h6 h8
      have es : supC K LR.prog.main.file n7 n13 = true := es
      have e8 : n8 = .none := by cases n8 <;> first | rfl | cases h9
      subst e8
      cases n7 with
      | nil => exact absurd (congrArg List.length h7) (by simp)
      | cons p r =>
        cases r with
        | cons _ _ => exact absurd (congrArg List.length h7) (by simp)
        | nil =>
          obtain ⟨pn, cc⟩ := p
          have hn : pn = "__class__" := (List.cons.inj h7).1
          subst hn
          cases n13 with
          | ref cda =>
            obtain ⟨s1, s2⟩ := He.ba (show (cellB K cc (cW K) && (PySem.W.codeIn K (.ref cda) "ColumnWatch.__init__" && fileB K LR.prog.main.file cda)) = true from es)
            obtain ⟨s3, s4⟩ := He.ba s2
            unfold cellB at s1
            unfold fileB at s4
            cases qc : K.lookup cc with
            | none => rw [qc] at s1; cases s1
            | some o2 =>
              obtain ⟨oc2, od2, dt2, osl2⟩ := o2
              rw [qc] at s1
              cases dt2 with
              | cell v2 =>
                cases v2 with
                | none => cases s1
                | some v2 =>
                  cases v2 with
                  | ref D =>
                    have eD : D = cW K := of_decide_eq_true s1
                    subst eD
                    cases qd : K.lookup cda with
                    | none => rw [qd] at s4; cases s4
                    | some o3 =>
                      obtain ⟨oc3, od3, dt3, osl3⟩ := o3
                      rw [qd] at s4
                      cases dt3 with
                      | fields vs =>
                        have s4 : (match (vs[2]? : Option Value) with
                          | some (.str x _) => decide (x = LR.prog.main.file)
                          | _ => false) = true := s4
                        cases qv : (vs[2]? : Option Value) with
                        | none => rw [qv] at s4; cases s4
                        | some v3 =>
                          rw [qv] at s4
                          cases v3 with
                          | str x tx =>
                            have ex : x = LR.prog.main.file := of_decide_eq_true s4
                            subst ex
                            refine ⟨_, fd2, cc, cda, ⟨⟨oc, oc3, oc2, od, od3, od2, .none, n9, n10, n11, n14, n12, osl, osl3, osl2, vs, tx, cd, _, q, s3, qd, qv, qc, hcd, rfl, rfl, fun us hl => match us, hl with | [_, _, _], _ => rfl⟩, of_decide_eq_true e.mro, He.eqO_ok e.opq, He.eqO_ok e.spi, of_decide_eq_true e.tyf, e.fni, by kernel_rfl⟩, fun_of F2, FunD.bindsN F2 fun _ _ _ _ _ _ us hl => match us, hl with | [_, _, _], _ => rfl⟩
                          | _ => cases s4
                      | _ => cases s4
                  | _ => cases s1
              | _ => cases s1
          | _ => cases es
    | _ => cases es
theorem dicW_keys {P : Params} {a : Addr} {ks : List Str} (h : He.dicW K a = some (He.keysIn P ks)) : ∃ es n, K.lookup a = some ⟨.type "dict", none, .dict es n, #[]⟩ ∧ es.toList.map He.keyOf = He.keysIn P ks ∧ (a == sysModules) = false := by
  unfold He.dicW at h
  cases q : K.lookup a with
  | none => rw [q] at h; cases h
  | some o =>
    obtain ⟨oc, od, dt, osl⟩ := o
    rw [q] at h
    cases oc with
    | type c =>
      cases od with
      | none =>
        cases dt with
        | dict es n =>
          have h1 : (match decide (c = "dict") && (osl.isEmpty && !(a == sysModules)) with
            | true => some (es.toList.map He.keyOf)
            | false => none) = some (He.keysIn P ks) := h
          cases z : decide (c = "dict") && (osl.isEmpty && !(a == sysModules)) with
          | false => rw [z] at h1; cases h1
          | true =>
            rw [z] at h1
            obtain ⟨z1, z2⟩ := He.ba z
            obtain ⟨z3, z4⟩ := He.ba z2
            have e1 : c = "dict" := of_decide_eq_true z1
            have e2 : osl = #[] := Array.isEmpty_iff.mp z3
            subst e1 e2
            refine ⟨es, n, rfl, Option.some.inj h1, ?_⟩
            cases y : a == sysModules with
            | false => rfl
            | true => rw [y] at z4; cases z4
        | _ => cases h
      | some b => cases dt <;> cases h
    | _ => cases od <;> cases dt <;> cases h
theorem text_keys {P : Params} : ∀ {l : List DictEntry} {ks : List Str}, l.map He.keyOf = He.keysIn P ks → (l.map fun e => textOf e.key) = ks
  | [], [], _ => rfl
  | [], _ :: _, h => by cases h
  | _ :: _, [], h => by cases h
  | e :: r, k :: ks, h => by
    have h1 : He.keyOf e :: r.map He.keyOf = some (k, PyData.keyHash P k) :: He.keysIn P ks := h
    injection h1 with h2 h3
    have ih := text_keys h3
    rw [List.map_cons, ih]
    congr 1
    unfold He.keyOf at h2
    split at h2
    · rename_i x t q
      have h4 := Option.some.inj h2
      obtain ⟨h5, h6⟩ := Prod.mk.inj h4
      rw [q]
      exact h5
    · cases h2
theorem num_of (X : K.In h) (G : h.Ns mainGlobals mg) (c : SaysL w h K) : NumAt K w mg := by
  have e := exP c
  have ht : He.dicW K (He.ga K "NUMBERS") = some (He.keysIn w.params ["x", "y", "z"]) := by
    have e : tsL.map (fun t => He.dicW K (t.1 K)) = tsL.map fun t => some (He.keysIn w.params t.2) := congrArg (fun z : He.AlT => z.2) c.t
    exact (List.cons.inj e).1
  obtain ⟨es, n, h1, h2, h3⟩ := dicW_keys ht
  have hl := He.keysLit_of h2
  have tk := text_keys h2
  refine ⟨He.ga K "NUMBERS", es, n, He.glo_ok X G (c.t.d.fact 136 rfl), ⟨h1, hl, h3⟩, by rw [tk]; decide, ?_, fun r => ?_⟩
  · have := congrArg List.length tk
    rw [List.length_map] at this
    exact this
  · have v : ∀ q ∈ ([("x", .int 0), ("y", .int 1), ("z", .int 2)] : List (Str × He.Dv)), KDct K w (He.ga K "NUMBERS") q.1 (q.2.v K) := fun q hq => by
      obtain ⟨u, u1, u2⟩ := He.valsB_ok e.vals hq
      exact ⟨es, n, u, h1, hl, u1, u2⟩
    cases r with
    | x => exact v ("x", .int 0) (by simp)
    | y => exact v ("y", .int 1) (by simp)
    | z => exact v ("z", .int 2) (by simp)
theorem dfc_of (X : K.In h) (G : h.Ns mainGlobals mg) (c : SaysL w h K) : DFC K mg "table" (top 60) ["book", "question"] (He.cT K ("table", none)).1 := by
  obtain ⟨fd, F⟩ := c.t.d.def_ 11 (d := dG "table" 60) rfl
  refine ⟨_, fd, ⟨fun_of F, He.glo_ok X G (c.t.d.fact 11 rfl), F.kp⟩, FunD.bindsN F fun _ _ _ _ _ _ us hl => match us, hl with | [_, _], _ => rfl, ?_⟩
  obtain ⟨oc, od, dV, kV, doc, pm, an, cdv, ct, osl, h1, h2, h3, _, _⟩ := F.ex
  obtain ⟨cc, hcc⟩ := He.codeIn_ref h3
  have e : fd.code = .ref cc := by rw [h1]; exact hcc
  rw [e]
  have := He.codeOf_eq (p := ("table", none)) h2 e
  show Value.ref cc = Value.ref (He.codeOf K ("table", none))
  rw [this]
end
end Ls
/-! LsEnd -/
set_option Elab.async false
set_option linter.all false
set_option maxRecDepth 100000
set_option maxHeartbeats 0
namespace Ls
open PySem PySem.W PySem.Calls PyProof.Rows
/-! ### the run whole, the law at the head -/
theorem glue {γ : Type} {e : Option SharedT} {l : SharedT → Bool} {q : SharedT → γ} {vq : γ} {tv : List (Option (List (Option (Str × Int))))}
    (h1 : e.map (fun s => (l s, q s, tsL.map (fun t => He.dicW (KK s) (t.1 (KK s))), exL (KK s) && He.tabsB (HandSHeadRun.getT s) tfL (KK s), fnU (KK s))) = some (true, vq, tv, true, valU))
    (h2 : e.map (fun s => faL.all fun f => f.ok (KK s)) = some true)
    (h3 : e.map (fun s => (fnL.all fun d => d.ok (KK s), fnL.map fun d => He.fnW (KK s) d.at_)) = some (true, fnL.map He.DefD.val)) :
    e.map (fun s => (l s, q s, ob s)) = some (true, vq, ((((true, fnL.map He.DefD.val), tv), true), valU)) := by
  cases e with
  | none => cases h1
  | some s =>
    have g1 : (l s, q s, tsL.map (fun t => He.dicW (KK s) (t.1 (KK s))), exL (KK s) && He.tabsB (HandSHeadRun.getT s) tfL (KK s), fnU (KK s)) = (true, vq, tv, true, valU) := Option.some.inj h1
    have g2 : (faL.all fun f => f.ok (KK s)) = true := Option.some.inj h2
    have g3 : (fnL.all fun d => d.ok (KK s), fnL.map fun d => He.fnW (KK s) d.at_) = (true, fnL.map He.DefD.val) := Option.some.inj h3
    have a1 := congrArg (fun z => z.1) g1
    have a2 := congrArg (fun z => z.2.1) g1
    have a3 := congrArg (fun z => z.2.2.1) g1
    have a4 := congrArg (fun z => z.2.2.2.1) g1
    have a5 := congrArg (fun z => z.2.2.2.2) g1
    have b1 := congrArg (fun z => z.1) g3
    have b2 := congrArg (fun z => z.2) g3
    dsimp only at a1 a2 a3 a4 a5 b1 b2
    show some (l s, q s, (((((faL.all fun f => f.ok (KK s)) && fnL.all fun d => d.ok (KK s), fnL.map fun d => He.fnW (KK s) d.at_), tsL.map (fun t => He.dicW (KK s) (t.1 (KK s)))), exL (KK s) && He.tabsB (HandSHeadRun.getT s) tfL (KK s)), fnU (KK s))) = _
    rw [a1, a2, a3, a4, a5, b1, b2, g2] <;> rfl
theorem run (w : World) : HandSHeadRun.RunEq LRow qv (hookZ 5) ob 12400 names w :=
  PySem.W.byRow2 "special-get-raises" (P := fun w => HandSHeadRun.RunEq LRow qv (hookZ 5) ob 12400 names w) (fun w os => glue (run1f w os) (run2f w os) (run3f w os)) (fun w os => glue (run1t w os) (run2t w os) (run3t w os)) w
theorem lawAt {w : World} {h : Heap} {K : Frag} {mg : PySem.Str → Option Value} {fa : Addr} (KX : K.In h) (c : SaysL w h K) (u : fnU K = valU) (G : h.Ns mainGlobals mg) (hfa : mg ("law" : PySem.Str) = some (.ref fa)) : LamX.LawAtS LR w K C8.CX0 10 63 "_law_script" mg fa h := by
  obtain ⟨fd, F⟩ := c.t.d.def_ 33 (d := dG "law" 103) rfl
  have e := hfa.symm.trans (He.glo_ok KX G (c.t.d.fact 33 (f := .glo "law") rfl))
  cases e
  have b := L2.FunD.bindsA (ps := ["_law_script"]) F fun _ _ _ _ _ _ us hl => match us, hl with | [_], _ => rfl
  refine ⟨fd, [He.cT K ("table", none)], spLaw K (He.cT K ("table", none)).2, fun p hp => ?_, fun p hp => ?_, fun p hp => ?_, fun s v => b s [v] rfl, fun H a ns hl _ hT hS => ⟨a, ns, rfl, hS, by omega, fun p hp => ?_, fun _ => rfl⟩, fun base hB hG hTB => ok_law (tf_of KX G c) (tfS_of c u) (tfI_of c) (num_of KX G c) (dfc_of KX G c) (hTB _ (by simp)) (fun_of F)⟩
  · obtain rfl := List.mem_singleton.mp hp
    exact c.empty _ (by simp [tfL])
  · obtain rfl := List.mem_singleton.mp hp
    exact c.out _ (by simp [tfL])
  · obtain rfl := List.mem_singleton.mp hp
    exact codeHd_of_K KX (c.hd _ (by simp [tfL]))
  · obtain rfl := List.mem_singleton.mp hp
    exact LamX.TabS.nil (hT _ (by simp))
end Ls
open PySem PySem.W PySem.Calls PyProof.Rows
theorem PySem.Challenge.cw_longstrike_k51_whole_judged_by_condition_holds : PySem.Challenge.rw_longstrike_k51_whole_judged_by_condition.Holds := by
  w_on; o_law
  refine HandSHeadRun.head_any (r := Ls.LRow) (q := Ls.qv) (H := Ls.hookZ 5) (ob := Ls.ob) (M := 12400) (loose := Ls.names) (d := HandSHeadRun.topDef Ls.LRow.prog 103) (kwd := []) Ls.ob_eq
    (by kernel_rfl) (fun s => by kernel_rfl) Ls.run (by kernel_rfl) (by kernel_rfl) (by kernel_rfl) (by rfl) (by first | assumption | decide +kernel) (by decide +kernel) ⟨rfl, rfl, rfl, rfl, rfl, by decide +kernel⟩ ?hw ?hc
  case hw => w_witness2
  case hc =>
    refine LamX.walk_ofTsE (l := Ls.LR) (n := 63) (k := 10) (x := "_law_script") (CX := fun _ => C8.CX0) rfl (by decide) (by kernel_rfl) ⟨rfl, by decide, by decide⟩ ?F (fun _ _ _ _ _ z => z)
    intro w mg fa h Y G hmg0
    obtain ⟨K, KX, c, u⟩ := Y
    have hmg : mg ("law" : PySem.Str) = some (.ref fa) := by
      have e : (HandSHeadRun.topDef Ls.LRow.prog 103).name = ("law" : PySem.Str) := by kernel_rfl
      rw [← e]
      exact hmg0
    exact ⟨K, KX, Ls.lawAt KX c u G hmg⟩
