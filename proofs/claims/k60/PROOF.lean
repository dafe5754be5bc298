import PyProof.Rows.All
import Wide.All
import OpenK.AllK
import Wide.FinOn
import HandS.Base
import HandS.Call
import HandS.Words
import HandS.Defaults
import HandS.ExcInit
import HandS.HeadHook1
import HandS.HeadHook2
import HandS.HeadHook3
import HandS.HeadHook4
import PySem.Challenge.RW_copytoll_k60_space_of_a_shelf
import HandS.Head0
import HandS.Head1
import HandS.Head2
import KE.KStateDown
import HandS.Walk
import HandS.Iter
import KE.GoesEnum
import KE.KDictWalk
import HandS.GenOver
import PyProof.GenQ
import HandS.GenCall
import HandS.GenList
import HandS.Exc
import HandS.ForMost
import HandS.Evl
import HandS.Deep
import HandS.WordsExc
import HandS.TupLe
import HandS.Strs
import HandS.Zip
import KE.KUnpackStar
import OpenK.KOps
import HandS.Wide
import KE.KExcIs
import KE.KTryMore
import HandS.TryMany
import HandS.ExcField
import HandS.HotCalls
import HandS.Lambda
import HandS.DictComp
import HandS.Text
import HandS.More
import KE.KExcInit
import HandS.Finally
import HandS.ExcCtx
import HandS.Property
import OpenK.KMore
import HandS.IsInst
import HandS.WordsDict
import HandS.Style
import PyProof.Rows.StrMeet
import PyProof.Rows.TmSorted
import HandS.EndTab
import HandS.HeadEnd
import HandS.HeadWalk
set_option Elab.async false
set_option linter.all false
set_option maxRecDepth 100000
set_option maxHeartbeats 0
/-! What the head looks at. -/
namespace PySem
namespace GL
abbrev leTail : List Value := [.type "LookupError", .type "Exception", .type "BaseException", .type "object"]
/-- own classes, then LookupError's line -/
def refsLE : List Value → Bool
  | .ref _ :: r => refsLE r
  | l => l == leTail
end GL
end PySem
namespace Cp
open PySem PySem.Spec PyProof.Rows L2 He
def topH (i : Nat) : Stmt := PySem.Challenge.pw_copytoll_k60_space_of_a_shelf.main.body.getD i (.Pass ⟨0, 0, 0, 0⟩)
abbrev dT (x : Str) (i : Nat) : DefD := ⟨(x, none), x, x, defArgs (topH i), defBody (topH i), defScope (topH i), [], []⟩
abbrev dM (c m q : Str) (i j : Nat) : DefD := ⟨(c, some m), m, q, defArgs (inClass (topH i) j), defBody (inClass (topH i) j), defScope (inClass (topH i) j), [], []⟩
def fnL : List DefD := [dT "bodies_of" 35, dT "count_in" 36, dT "nesting_of" 37, dT "numbered" 38, dT "laid" 39, dT "rows_of" 40, dT "comes_to_end" 45, dT "returning" 46, dT "is_word" 29, dT "plain_body" 78, dT "read_program" 90, dT "_law_bag" 97, dT "_law_take" 98, dT "_law_pick" 99, dT "_law_alike" 100, dT "_law_tried" 101, dT "_law_fields" 102, dT "_law_words" 103, dT "_law_asked" 104, dT "_law_beyond_space" 105, dT "law" 106, dM "Full" "__init__" "Full.__init__" 17 0, dM "NoProgram" "__init__" "NoProgram.__init__" 21 0, dM "Kinds" "__init__" "Kinds.__init__" 30 0, dM "Kinds" "may_follow" "Kinds.may_follow" 30 5, dM "Program" "__init__" "Program.__init__" 81 0, dM "Program" "check_ends" "Program.check_ends" 81 1, dM "Program" "head_fits" "Program.head_fits" 81 5, dM "Reader" "__init__" "Reader.__init__" 89 0, dM "Reader" "first_word" "Reader.first_word" 89 1, dM "Reader" "taken" "Reader.taken" 89 2, dM "Reader" "kind_row" "Reader.kind_row" 89 4, dM "Reader" "body" "Reader.body" 89 8, dM "Reader" "names_of" "Reader.names_of" 89 9, dM "Reader" "procedure_row" "Reader.procedure_row" 89 10, dM "Shelf" "__init__" "Shelf.__init__" 95 0, dM "Shelf" "__len__" "Shelf.__len__" 95 1, dM "Shelf" "restore" "Shelf.restore" 95 6, dM "Shelf" "kept_state" "Shelf.kept_state" 95 7, dM "Shelf" "names" "Shelf.names" 95 8, dM "Shelf" "program" "Shelf.program" 95 9, dM "Shelf" "values_kept" "Shelf.values_kept" 95 13, dM "Shelf" "check" "Shelf.check" 95 14, dM "Shelf" "need_word" "Shelf.need_word" 95 15, dM "Shelf" "place" "Shelf.place" 95 16, dM "Shelf" "act" "Shelf.act" 95 17, dM "Shelf" "step" "Shelf.step" 95 18, dM "Shelf" "do" "Shelf.do" 95 19, dM "Shelf" "set_space" "Shelf.set_space" 95 23, dM "Shelf" "undo" "Shelf.undo" 95 24, dM "Shelf" "redo" "Shelf.redo" 95 25, dM "Shelf" "depth" "Shelf.depth" 95 26, dM "Shelf" "text_of" "Shelf.text_of" 95 28]
def faL : List Fa := [.free "len", .free "range", .free "max", .free "sum", .free "list", .free "all", .free "set", .free "tuple", .free "enumerate", .free "isinstance", .free "dict", .free "int", .free "sorted", .free "bool", .free "str", .int "PROGRAMS" 5, .int "WISHES" 5, .int "KINDS" 4, .int "FIELDS" 3, .int "SIZE" 8, .int "PROCEDURES" 4, .int "NAMES" 4, .int "STATEMENTS" 14, .int "NESTING" 3, .str "LETTERS" "abcdefghijklmnopqrstuvwxyz", .glo "bodies_of", .glo "count_in", .glo "nesting_of", .glo "numbered", .glo "laid", .glo "rows_of", .glo "comes_to_end", .glo "returning", .glo "is_word", .glo "plain_body", .glo "read_program", .glo "_law_bag", .glo "_law_take", .glo "_law_pick", .glo "_law_alike", .glo "_law_tried", .glo "_law_fields", .glo "_law_words", .glo "_law_asked", .glo "_law_beyond_space", .glo "law", .glo "DEEDS", .glo "program_text", .glo "Kinds", .glo "Program", .glo "Reader", .glo "Shelf", .glo "BadKind", .glo "BadProgram", .glo "BadMark", .glo "BadText", .glo "BadField", .glo "BadCell", .glo "BadRule", .glo "Barren", .glo "TooWide", .glo "Full", .glo "Stopped", .glo "NoKind", .glo "NoProcedure", .glo "NoProgram", .cls "Kinds", .cls "Program", .cls "Reader", .cls "Shelf", .noat "Kinds" "forms", .noat "Kinds" "sizes", .noat "Program" "table", .noat "Program" "signs", .noat "Program" "texts", .noat "Program" "code", .noat "Reader" "lines", .noat "Reader" "at", .noat "Reader" "inside", .noat "Shelf" "programs", .noat "Shelf" "wishes", .noat "Shelf" "number", .noat "Shelf" "room", .noat "Shelf" "past", .noat "Shelf" "later", .noat "Shelf" "done", .noat "Full" "bound", .noat "Full" "tag", .noat "NoProgram" "name", .noat "NoProgram" "tag", .meth "Full" "__init__", .meth "NoProgram" "__init__", .meth "Kinds" "may_follow", .meth "Program" "check_ends", .meth "Program" "head_fits", .meth "Reader" "first_word", .meth "Reader" "taken", .meth "Reader" "kind_row", .meth "Reader" "body", .meth "Reader" "names_of", .meth "Reader" "procedure_row", .meth "Shelf" "__len__", .meth "Shelf" "restore", .meth "Shelf" "kept_state", .meth "Shelf" "names", .meth "Shelf" "program", .meth "Shelf" "values_kept", .meth "Shelf" "check", .meth "Shelf" "need_word", .meth "Shelf" "place", .meth "Shelf" "act", .meth "Shelf" "step", .meth "Shelf" "do", .meth "Shelf" "set_space", .meth "Shelf" "undo", .meth "Shelf" "redo", .meth "Shelf" "depth", .meth "Shelf" "text_of", .mkr "Kinds", .mkr "Program", .mkr "Reader", .mkr "Shelf", .keep "program_text", .exm "Full" "BadKind" false, .exm "Full" "BadProgram" false, .exm "Full" "BadMark" false, .exm "Full" "BadText" false, .exm "Full" "BadField" false, .exm "Full" "BadCell" false, .exm "Full" "BadRule" false, .exm "Full" "Barren" false, .exm "Full" "TooWide" false, .exm "Full" "Full" true, .exm "Full" "Stopped" false, .exm "NoProgram" "BadKind" false, .exm "NoProgram" "BadProgram" false, .exm "NoProgram" "BadMark" false, .exm "NoProgram" "BadText" false, .exm "NoProgram" "BadField" false, .exm "NoProgram" "BadCell" false, .exm "NoProgram" "BadRule" false, .exm "NoProgram" "Barren" false, .exm "NoProgram" "TooWide" false, .exm "NoProgram" "Full" false, .exm "NoProgram" "Stopped" false, .exm "NoProgram" "NoKind" false, .exm "NoProgram" "NoProcedure" false, .exm "NoProgram" "NoProgram" true]
def tsL : List Tab := [(fun K => ga K "DEEDS", ["put", "copy", "drop", "mark", "unmark", "wish", "unwish"])]
def tfL : List Defn := [("law", none), ("_law_asked", none), ("_law_beyond_space", none)]
/-- a property's getter, its setter -/
def prG (K : PySem.W.Frag) : Addr := match PySem.W.recIn K (ma K (ga K "Shelf") "space") "property" with
  | some (.ref g :: _) => g
  | _ => 0
def prS (K : PySem.W.Frag) : Addr := match PySem.W.recIn K (ma K (ga K "Shelf") "space") "property" with
  | some (_ :: .ref g :: _) => g
  | _ => 0
/-- the def at an address -/
def fnA (K : PySem.W.Frag) (a : Addr) : FnW := match K.lookup a with
  | some ⟨_, _, .func fd, _⟩ => some (fd.name, fd.qualname, fd.params, fd.body, fd.scope, fd.globals, fd.closure, fd.builtins)
  | _ => none
def okA (K : PySem.W.Frag) (a : Addr) (q : Str) : Bool := PySem.W.keepIn K (.ref a) && (match K.lookup a with
  | some ⟨_, _, .func fd, _⟩ => PySem.W.codeIn K fd.code q && (dflB K fd.defaults [] && kwdB K fd.kwdefaults [])
  | _ => false)
def stW (x q : Str) (st : Stmt) : FnW := some (x, q, defArgs st, .stmts (defBody st), defScope st, mainGlobals, [], builtinsNs)
def oexB (K : PySem.W.Frag) (C : Addr) : Bool := match K.lookup C with
  | some ⟨.type t, _, .cls cd, sl⟩ => decide (t = "type") && (match cd.mro, sl.toList with
    | .ref C' :: bm, [_, _, _, _, some (.builtin n), _] => C' == C && n == "ValueError.__new__" && !cd.hasDel && cd.hasDict && PySem.HandSPX.refsVE bm
    | _, _ => false)
  | _ => false
def oelB (K : PySem.W.Frag) (C : Addr) : Bool := match K.lookup C with
  | some ⟨.type t, _, .cls cd, sl⟩ => decide (t = "type") && (match cd.mro, sl.toList with
    | .ref C' :: bm, [_, _, _, _, some (.builtin n), _] => C' == C && n == "LookupError.__new__" && !cd.hasDel && cd.hasDict && PySem.GL.refsLE bm
    | _, _ => false)
  | _ => false
def dmB (K : PySem.W.Frag) (d : Addr) (z : Str) (i : Int) : Bool := match PySem.W.nsIn K d z with
  | some (some u) => relB (.int i) u
  | _ => false
def rcB (K : PySem.W.Frag) : Bool := match PySem.W.recIn K (ma K (ga K "Shelf") "space") "property" with
  | some (.ref _ :: .ref _ :: _) => true
  | _ => false
def xcA (K : PySem.W.Frag) (C : Addr) : Bool := (PySem.W.clsIn K C).isSome && (decide (PySem.W.findIn K (.ref C) "__getattribute__" = some (some (.builtin "BaseException.__getattribute__"))) && (decide (PySem.W.findIn K (.ref C) "__getattr__" = some none) && (decide (PySem.W.subIn K (.ref C) (.type "BaseException") = some true) && (PySem.W.hasDictIn K C &&
  (decide (PySem.W.findIn K (.ref C) "__class__" = some (some (.builtin "object.__class__"))) && (decide (PySem.W.specialIn K (.builtin "object.__class__") "__get__" = some (some (.builtin "getset_descriptor.__get__"))) && (decide (PySem.W.takesIn K (.builtin "object.__class__") = some true) && decide (PySem.W.mroIn K C (.type "object") = some true))))))))
def tabA (K : PySem.W.Frag) (x : Str) : Addr := tabOf K (codeOf K (x, none))
def exL (K : PySem.W.Frag) : Bool := oexB K (ga K "Full") &&
  (decide (PySem.W.findIn K (.ref (ga K "Full")) "__setattr__" = some (some (.builtin "object.__setattr__"))) &&
  (decide (PySem.W.subIn K (.ref (ga K "Full")) (.type "BaseException") = some true) &&
  (decide (PySem.W.typeIn K (.ref (ga K "Full")) = some (.type "type")) &&
  (PySem.W.keepIn K (.ref (ga K "Full")) &&
  (xcA K (ga K "Full") &&
  (decide (PySem.W.typeIn K (.ref (ma K (ga K "Full") "__init__")) = some (.type "function")) &&
  (oelB K (ga K "NoProgram") &&
  (decide (PySem.W.findIn K (.ref (ga K "NoProgram")) "__setattr__" = some (some (.builtin "object.__setattr__"))) &&
  (decide (PySem.W.subIn K (.ref (ga K "NoProgram")) (.type "BaseException") = some true) &&
  (decide (PySem.W.typeIn K (.ref (ga K "NoProgram")) = some (.type "type")) &&
  (PySem.W.keepIn K (.ref (ga K "NoProgram")) &&
  (xcA K (ga K "NoProgram") &&
  (decide (PySem.W.typeIn K (.ref (ma K (ga K "NoProgram") "__init__")) = some (.type "function")) &&
  (decide (PySem.W.kitOne K (.ref (ga K "Full")) (.ref (ga K "BadKind")) = some false) &&
  (decide (PySem.W.kitOne K (.ref (ga K "Full")) (.ref (ga K "BadProgram")) = some false) &&
  (decide (PySem.W.kitOne K (.ref (ga K "Full")) (.ref (ga K "BadMark")) = some false) &&
  (decide (PySem.W.kitOne K (.ref (ga K "Full")) (.ref (ga K "BadText")) = some false) &&
  (decide (PySem.W.kitOne K (.ref (ga K "Full")) (.ref (ga K "BadField")) = some false) &&
  (decide (PySem.W.kitOne K (.ref (ga K "Full")) (.ref (ga K "BadCell")) = some false) &&
  (decide (PySem.W.kitOne K (.ref (ga K "Full")) (.ref (ga K "BadRule")) = some false) &&
  (decide (PySem.W.kitOne K (.ref (ga K "Full")) (.ref (ga K "Barren")) = some false) &&
  (decide (PySem.W.kitOne K (.ref (ga K "Full")) (.ref (ga K "Stopped")) = some false) &&
  (decide (PySem.W.findIn K (.ref (ga K "Shelf")) "space" = some (some (.ref (ma K (ga K "Shelf") "space")))) &&
  (decide (PySem.W.specialIn K (.ref (ma K (ga K "Shelf") "space")) "__get__" = some (some (.builtin "property.__get__"))) &&
  (decide (PySem.W.takesIn K (.ref (ma K (ga K "Shelf") "space")) = some true) &&
  (rcB K &&
  (decide (PySem.W.takerIn K (ga K "Shelf") "space" = some (some (.ref (ma K (ga K "Shelf") "space")))) &&
  (decide (PySem.W.typeIn K (.ref (ma K (ga K "Shelf") "space")) = some (.type "property")) &&
  (okA K (prG K) "Shelf.space" &&
  (okA K (prS K) "Shelf.space" &&
  (dmB K (ga K "DEEDS") "put" 3 &&
  (dmB K (ga K "DEEDS") "copy" 3 &&
  (dmB K (ga K "DEEDS") "drop" 2 &&
  (decide (tabA K "law" ≠ tabA K "_law_asked") &&
  (decide (tabA K "law" ≠ tabA K "_law_beyond_space") &&
  (decide (tabA K "_law_asked" ≠ tabA K "_law_beyond_space")))))))))))))))))))))))))))))))))))))
end Cp

/-! A Hook that looks at few objects, their addresses written down; the part of the heap is made once. -/
namespace Hq
open PySem PySem.Spec PyProof.Rows L2 He
def partK {α : Type} (g : Addr → Option Obj) : List Addr → (PySem.W.Frag → α) → α
  | [], k => k []
  | a :: r, k => (match g a with
    | none => partK g r k
    | some o => (match emptyTab o with
      | true => partK g r k
      | false => HandSHeadRun.frNat a fun b => partK g r fun l => k ((b, o) :: l)))
theorem frT_cons (g : Addr → Option Obj) (a : Addr) (r : List Addr) : frT g (a :: r) = (match g a with
    | none => frT g r
    | some o => (match emptyTab o with
      | true => frT g r
      | false => (a, o) :: frT g r)) := by
  unfold frT frG
  cases e : g a with
  | none => simp [List.filterMap_cons, e]
  | some o => cases t : emptyTab o <;> simp [List.filterMap_cons, List.filter_cons, e, t]
theorem partK_eq {α : Type} {g : Addr → Option Obj} : ∀ {l : List Addr} {k : PySem.W.Frag → α}, partK g l k = k (frT g l)
  | [], k => rfl
  | a :: r, k => by
    rw [frT_cons]
    unfold partK
    cases e : g a with
    | none => exact partK_eq
    | some o =>
      show (match emptyTab o with | true => partK g r k | false => _) = k (match emptyTab o with | true => frT g r | false => _)
      cases t : emptyTab o with
      | true => exact partK_eq
      | false =>
        show HandSHeadRun.frNat a (fun b => partK g r fun l => k ((b, o) :: l)) = _
        rw [HandSHeadRun.frNat_eq]
        exact partK_eq
abbrev AlP : Type := AlX × FnW × FnW
/-- what is told -/
structure SaysP (fa : List Fa) (fn : List DefD) (ts : List Tab) (tf : List Defn) (ex : PySem.W.Frag → Bool) (f1 f2 : PySem.W.Frag → FnW) (v1 v2 : FnW) (w : World) (h : Heap) (K : PySem.W.Frag) : Prop where
  x : SaysX fa fn ts tf ex w h K
  e1 : f1 K = v1
  e2 : f2 K = v2
section
variable {fa : List Fa} {fn : List DefD} {ts : List Tab} {tf : List Defn} {ex : PySem.W.Frag → Bool} {f1 f2 : PySem.W.Frag → FnW} {v1 v2 : FnW}
def obsK (fa : List Fa) (fn : List DefD) (ts : List Tab) (tf : List Defn) (ex : PySem.W.Frag → Bool) (f1 f2 : PySem.W.Frag → FnW) (g : Addr → Option Obj) (K : PySem.W.Frag) : AlP := ((obsT fa fn ts K, ex K && tabsB g tf K), f1 K, f2 K)
def obsP (A : List Addr) (fa : List Fa) (fn : List DefD) (ts : List Tab) (tf : List Defn) (ex : PySem.W.Frag → Bool) (f1 f2 : PySem.W.Frag → FnW) (g : Addr → Option Obj) : AlP := partK g A fun K => obsK fa fn ts tf ex f1 f2 g K
def valP (fn : List DefD) (ts : List Tab) (v1 v2 : FnW) (w : World) : AlP := (valX fn ts w, v1, v2)
theorem obsP_eq {A : List Addr} {g : Addr → Option Obj} : obsP A fa fn ts tf ex f1 f2 g = obsK fa fn ts tf ex f1 f2 g (frT g A) := by
  unfold obsP
  rw [partK_eq]
theorem says_of {w : World} {h : Heap} {l : List Addr} (e : obsK fa fn ts tf ex f1 f2 h.get? (frT h.get? l) = valP fn ts v1 v2 w) : SaysP fa fn ts tf ex f1 f2 v1 v2 w h (frT h.get? l) := by
  have e0 := congrArg Prod.fst e
  have e1 := congrArg Prod.fst e0
  have e2 := ba (congrArg Prod.snd e0)
  have key : ∀ p ∈ tf, PySem.W.codeHdIn (frT h.get? l) (cT (frT h.get? l) p).1 (cT (frT h.get? l) p).2 = true ∧ ∃ o, h.get? (cT (frT h.get? l) p).2 = some o ∧ emptyTab o = true := fun p hp => by
    have h5 := ba (List.all_eq_true.mp e2.2 p hp)
    refine ⟨h5.1, ?_⟩
    have h4 := h5.2
    revert h4
    cases h.get? (cT (frT h.get? l) p).2 with
    | none => exact fun z => (nomatch z)
    | some o => exact fun z => ⟨o, rfl, z⟩
  refine ⟨⟨e1, e2.1, fun p hp => (key p hp).1, fun p hp => ?_, fun p hp => ?_⟩, congrArg (fun z : AlP => z.2.1) e, congrArg (fun z : AlP => z.2.2) e⟩
  · exact let ⟨_, o, q, z⟩ := key p hp; frT_none q z
  · exact let ⟨_, o, q, z⟩ := key p hp; q.trans (congrArg some (emptyTab_eq z))
end
/-- the Hook -/
def hookP (A : List Addr) (fa : List Fa) (fn : List DefD) (ts : List Tab) (tf : List Defn) (ex : PySem.W.Frag → Bool) (f1 f2 : PySem.W.Frag → FnW) (v1 v2 : FnW) : PySem.W.Hook :=
  { α := AlP, obs := fun s => obsP A fa fn ts tf ex f1 f2 s.heap.get?, val := fun w => valP fn ts v1 v2 w, says := fun w h => ∃ K : PySem.W.Frag, K.In h ∧ SaysP fa fn ts tf ex f1 f2 v1 v2 w h K,
    of := fun _ _ e => ⟨_, frT_in, says_of (obsP_eq.symm.trans e)⟩,
    keeps := fun _ _ _ z k => let ⟨K, hK, c⟩ := z; ⟨K, PySem.W.Frag.In.keeps hK k, ⟨⟨c.x.t, c.x.more, c.x.hd, c.x.out, fun p hp => k _ _ (c.x.empty p hp)⟩, c.e1, c.e2⟩⟩ }
theorem obsP_get {A : List Addr} {fa : List Fa} {fn : List DefD} {ts : List Tab} {tf : List Defn} {ex : PySem.W.Frag → Bool} {f1 f2 : PySem.W.Frag → FnW} {v1 v2 : FnW} {g : Addr → Option Obj} {s : Shared} (h : ∀ a, g a = s.heap.get? a) : obsP A fa fn ts tf ex f1 f2 g = (hookP A fa fn ts tf ex f1 f2 v1 v2).obs s := by
  show _ = obsP A fa fn ts tf ex f1 f2 s.heap.get?
  rw [funext h]
end Hq
namespace Cp
open PySem PySem.Spec PyProof.Rows L2 He
/-- where the named defs, classes, their lines, the property, the tables and the code objects stand (found by a run) -/
def adL : List Addr := [3, 30, 31, 43, 44, 63, 64, 101, 102, 120, 121, 139, 140, 158, 159, 177, 178, 196, 197, 215, 216, 253, 254, 307, 308, 310, 311, 329, 330, 348, 349, 367, 368, 383, 384, 386, 387, 431, 432, 443, 444, 476, 477, 519, 520, 665, 666, 670, 671, 675, 676, 682, 683, 689, 690, 696, 697, 730, 731, 737, 738, 1344, 1345, 1368, 1369, 1375, 1376, 1399, 1400, 1504, 1505, 1537, 1538, 1551, 1552, 1558, 1559, 1565, 1566, 1579, 1580, 1607, 1608, 1614, 1615, 1621, 1622, 1624, 1625, 1635, 1636, 1637, 1650, 1651, 1657, 1658, 1690, 1691, 1697, 1698, 1704, 1705, 1711, 1712, 1737, 1738, 1744, 1745, 1751, 1752, 1758, 1759, 1763, 1764, 1768, 1769, 1775, 1776, 1789, 1790, 1798, 1799, 1800, 1806, 1807, 1813, 1814, 1820, 1821, 1827, 1828, 1841, 1842, 1844, 1845, 1855, 1856, 1862, 1863, 1869, 1870, 1874, 1875, 1881, 1882, 1888, 1889, 1895, 1896, 1902, 1903, 1907, 1908, 1914, 1915]
def wG (K : PySem.W.Frag) : FnW := fnA K (prG K)
def wS (K : PySem.W.Frag) : FnW := fnA K (prS K)
def vG : FnW := stW "space" "Shelf.space" (inClass (topH 95) 21)
def vS : FnW := stW "space" "Shelf.space" (inClass (topH 95) 22)
end Cp

/-! The head, in parts: the module's run is made anew in each declaration (the lid of Lean's memory). -/
namespace Cp
open PySem PySem.Spec PySem.W PyProof.Rows L2 He
abbrev R : PySem.W.OpenRow := PySem.W.OpenLaw.row PySem.Challenge.rw_copytoll_k60_space_of_a_shelf
abbrev hk : PySem.W.Hook := Hq.hookP adL faL fnL tsL tfL exL wG wS vG vS
def ob (s : PySem.W.SharedT) : Hq.AlP := Hq.obsP adL faL fnL tsL tfL exL wG wS (HandSHeadRun.getT s)
theorem ob_eq (s : PySem.W.SharedT) : ob s = hk.obs s.abs := Hq.obsP_get (HandSHeadRun.getT_eq s)
def names0 : List Str := ["_wall", "__name__", "TollError", "TollMissing", "BadKind", "BadWay", "BadProgram", "BadMark", "BadText", "BadField", "BadCell", "Barren", "BadRule", "Endless", "TooWide", "BadName", "BadDeed", "Full", "Stopped", "NoKind", "NoProcedure", "NoProgram", "NoWish", "NothingLeft", "KINDS", "FIELDS", "SIZE", "LETTERS", "is_word", "Kinds", "Grammar"]
def names1 : List Str := ["ASK", "bodies_of", "count_in", "nesting_of", "numbered", "laid", "rows_of", "sources_of", "uses_of", "first_use", "way_to_reading", "comes_to_end", "returning", "Way", "Once", "Exact", "Stuck", "Heap", "picture_of", "number_from", "heap_of", "boxes_from", "recounted", "held_outside", "start_picture", "end_picture", "merge_result", "match_boxes", "Table", "do_plain", "keeps_wish"]
def names2 : List Str := ["PROCEDURES", "NAMES", "STATEMENTS", "NESTING", "FORMS", "NUMBER", "plain_statement", "plain_body", "with_mark", "with_given", "Program", "DEEP", "path_text", "source_text", "statement_rows", "body_rows", "program_text", "Reader", "read_program", "PROGRAMS", "WISHES", "DEEDS", "Shelf", "_law_bag", "_law_take", "_law_pick", "_law_alike", "_law_tried", "_law_fields", "_law_words", "_law_asked", "_law_beyond_space"]
def names : List Str := names0 ++ names1 ++ names2
noncomputable abbrev ran (w : World) (os : OsState) : Option PySem.W.SharedT := HandSHeadRun.endF (HandSHeadRun.stepQ (HandSHeadRun.denQ HandSHeadRun.tabQ) R.prog w) 20000 R.prog w os
noncomputable abbrev pL (w : World) (s : PySem.W.SharedT) : Bool := HandSHeadRun.looksF R.prog (boot_heap w.params) s.abs
noncomputable abbrev pS (s : PySem.W.SharedT) := HandSHeadRun.seenQ (PySem.W.view R.prog [106]) names (importedModules R.prog.main.body) (fun s => PySem.W.xlAt (PySem.W.view R.prog [106]) [] s && PySem.W.recOk R.toRowW.records s) s.abs
noncomputable abbrev pA (s : PySem.W.SharedT) : Bool := Hq.partK (HandSHeadRun.getT s) adL fun K => (faL.all fun f => f.ok K) && (exL K && tabsB (HandSHeadRun.getT s) tfL K)
noncomputable abbrev pB (s : PySem.W.SharedT) := Hq.partK (HandSHeadRun.getT s) adL fun K => ((fnL.all fun d => d.ok K), fnL.map (fun d => fnW K d.at_), tsL.map (fun t => dicW K (t.1 K)), wG K, wS K)
theorem hLF (w : World) (os : OsState) : (ran (w.withFollow "special-get-raises" false) os).map (pL (w.withFollow "special-get-raises" false)) = some true := by
  kernel_rfl
theorem hSF (w : World) (os : OsState) : (ran (w.withFollow "special-get-raises" false) os).map pS = some (PySem.W.openGood (PySem.W.view R.prog [106]) names) := by
  kernel_rfl
theorem hAF (w : World) (os : OsState) : (ran (w.withFollow "special-get-raises" false) os).map pA = some true := by
  kernel_rfl
theorem hBF (w : World) (os : OsState) : (ran (w.withFollow "special-get-raises" false) os).map pB = some (true, fnL.map DefD.val, tsL.map (fun t => some (keysIn (w.withFollow "special-get-raises" false).params t.2)), vG, vS) := by
  kernel_rfl
theorem hLT (w : World) (os : OsState) : (ran (w.withFollow "special-get-raises" true) os).map (pL (w.withFollow "special-get-raises" true)) = some true := by
  kernel_rfl
theorem hST (w : World) (os : OsState) : (ran (w.withFollow "special-get-raises" true) os).map pS = some (PySem.W.openGood (PySem.W.view R.prog [106]) names) := by
  kernel_rfl
theorem hAT (w : World) (os : OsState) : (ran (w.withFollow "special-get-raises" true) os).map pA = some true := by
  kernel_rfl
theorem hBT (w : World) (os : OsState) : (ran (w.withFollow "special-get-raises" true) os).map pB = some (true, fnL.map DefD.val, tsL.map (fun t => some (keysIn (w.withFollow "special-get-raises" true).params t.2)), vG, vS) := by
  kernel_rfl
theorem joined {w : World} (h1 : ∀ os, (ran w os).map (pL w) = some true) (h2 : ∀ os, (ran w os).map pS = some (PySem.W.openGood (PySem.W.view R.prog [106]) names)) (h3 : ∀ os, (ran w os).map pA = some true)
    (h4 : ∀ os, (ran w os).map pB = some (true, fnL.map DefD.val, tsL.map (fun t => some (keysIn w.params t.2)), vG, vS)) : HandSHeadRun.RunEq R (PySem.W.view R.prog [106]) hk ob 20000 names w := fun os => by
  obtain ⟨s, hs, e1⟩ := Option.map_eq_some_iff.mp (h1 os)
  have e2 := h2 os
  have e3 := h3 os
  have e4 := h4 os
  rw [hs] at e2 e3 e4
  have e2 := Option.some.inj e2
  have e3 := Option.some.inj e3
  have e4 := Option.some.inj e4
  have hs' : HandSHeadRun.endF (HandSHeadRun.stepQ (HandSHeadRun.denQ HandSHeadRun.tabQ) R.prog w) 20000 R.prog w os = some s := hs
  rw [hs']
  have e3 : Hq.partK (HandSHeadRun.getT s) adL (fun K => (faL.all fun f => f.ok K) && (exL K && tabsB (HandSHeadRun.getT s) tfL K)) = true := e3
  have e4 : Hq.partK (HandSHeadRun.getT s) adL (fun K => ((fnL.all fun d => d.ok K), fnL.map (fun d => fnW K d.at_), tsL.map (fun t => dicW K (t.1 K)), wG K, wS K)) = (true, fnL.map DefD.val, tsL.map (fun t => some (keysIn w.params t.2)), vG, vS) := e4
  rw [Hq.partK_eq] at e3 e4
  obtain ⟨a1, a2⟩ := ba e3
  simp only [Prod.mk.injEq] at e4
  obtain ⟨b1, b2, b3, b4, b5⟩ := e4
  have eo : ob s = hk.val w := by
    show Hq.obsP adL faL fnL tsL tfL exL wG wS (HandSHeadRun.getT s) = Hq.valP fnL tsL vG vS w
    rw [Hq.obsP_eq]
    have key : ∀ K : PySem.W.Frag, (faL.all fun f => f.ok K) = true → (exL K && tabsB (HandSHeadRun.getT s) tfL K) = true → (fnL.all fun d => d.ok K) = true → (fnL.map fun d => fnW K d.at_) = fnL.map DefD.val → (tsL.map fun t => dicW K (t.1 K)) = tsL.map (fun t => some (keysIn w.params t.2)) → wG K = vG → wS K = vS → Hq.obsK faL fnL tsL tfL exL wG wS (HandSHeadRun.getT s) K = Hq.valP fnL tsL vG vS w := fun K a1 a2 b1 b2 b3 b4 b5 => by
      show (((((faL.all fun f => f.ok K) && (fnL.all fun d => d.ok K), fnL.map fun d => fnW K d.at_), tsL.map fun t => dicW K (t.1 K)), exL K && tabsB (HandSHeadRun.getT s) tfL K), wG K, wS K) = _
      rw [a1, a2, b1, b2, b3, b4, b5]
      rfl
    exact key _ a1 a2 b1 b2 b3 b4 b5
  show some (HandSHeadRun.looksF R.prog (boot_heap w.params) s.abs, HandSHeadRun.seenQ (PySem.W.view R.prog [106]) names (importedModules R.prog.main.body) (fun s => PySem.W.xlAt (PySem.W.view R.prog [106]) [] s && PySem.W.recOk R.toRowW.records s) s.abs, ob s) = _
  rw [eo]
  exact congrArg some (Prod.ext e1 (Prod.ext e2 rfl))
theorem run (w : World) : HandSHeadRun.RunEq R (PySem.W.view R.prog [106]) hk ob 20000 names w :=
  PySem.W.byRow2 "special-get-raises" (P := fun w => HandSHeadRun.RunEq R (PySem.W.view R.prog [106]) hk ob 20000 names w) (fun w => joined (hLF w) (hSF w) (hAF w) (hBF w)) (fun w => joined (hLT w) (hST w) (hAT w) (hBT w)) w
end Cp

/-! enumerate over a tuple, over the keys of a dict. -/
namespace GN
open PySem PySem.Spec PyProof.Rows L2
open Sem (wp)
section
variable {prog : Program} {w : World} {A : Around} {E : Value → Shared → Prop} {s : Shared}
theorem nx_key {it d : Addr} {i ep : Nat} {es : Array DictEntry} {Q : Value → Shared → Prop} (hit : s.heap.IsKeyIter it d i es.size ep) (hm : s.heap.DictRaw d es ep) (hi : i < es.size)
    (hQ : ∀ h', h'.IsKeyIter it d (i + 1) es.size ep → Heap.SameBut it s.heap h' → Q es[i].key { s with heap := h' }) : wpAny (model prog w) A (Builtin.SmallTypes.nextOf (.ref it)) Q E s := by
  obtain ⟨o, ho, hc, hd⟩ := id hit
  obtain ⟨od, hod, hcd, hdd⟩ := id hm
  unfold Builtin.SmallTypes.nextOf
  refine wpAny_bind (wpAny_callSpecial?_slot (name := Str.ofString "__next__") hit.typeIs F.slot_dict_keyiterator_next (wpAny_call_entry F.slot_dict_keyiterator_next hit.typeIs F.entry_dict_keyiterator_next ?_ (F.args_dict_keyiterator_next_1 _)))
  refine wpAny_bind (wpAny_pure (wpAny_bind (wpAny_bind ?_)))
  first | refine wpAny_bind (wpAny_typeNameOfWhole_keyiter hit.typeIs (wpAny_pure (wpAny_bind (wpAny_fieldsOf ho hd ?_)))) | refine wpAny_bind (wpAny_typeNameOf_keyiter hit.typeIs (wpAny_pure (wpAny_bind (wpAny_fieldsOf ho hd ?_))))
  have own0 : Builtin.Dict_items.ownsTuple "dict_keyiterator" = false := by decide
  simp only [own0, Bool.false_eq_true, if_false]
  show wpAny _ _ (if (Value.ref d == Value.none) = true then _ else _) _ E s
  rw [if_neg (show ¬ (Value.ref d == Value.none) = true from Bool.false_ne_true)]
  refine wpAny_bind (wpAny_pure (wpAny_bind (wpAny_dictEntries hod hdd ?_)))
  rw [if_neg (by simp)]
  refine wpAny_bind (wpAny_pure (wpAny_bind (wpAny_dictEpoch hod hdd ?_)))
  rw [if_neg (by simp)]
  refine wpAny_pure ?_
  simp only [show ¬ ((i : Int) < 0) by omega, if_false, Int.toNat_natCast, Array.getElem?_eq_getElem hi]
  refine wpAny_bind ?_
  first | refine wpAny_bind (wpAny_typeNameOfWhole_keyiter hit.typeIs (wpAny_pure (wpAny_bind (wpAny_isOneOf_keyiter hit.typeIs ?_)))) | refine wpAny_bind (wpAny_typeNameOf_keyiter hit.typeIs (wpAny_pure (wpAny_bind (wpAny_isOneOf_keyiter hit.typeIs ?_))))
  show wpAny _ _ (setField (.ref it) 1 (rawInt ((i : Int) + 1)) >>= _) _ E s
  refine wpAny_bind (wpAny_setField ho hd (by simp) ?_)
  have h2 : (s.heap.update it (Obj.mapFields (·.setIfInBounds 1 (rawInt ((i : Int) + 1))))).IsKeyIter it d (i + 1) es.size ep :=
    ⟨_, Heap.get?_update_self _ ho (Obj.isFreed_of_fields (Obj.data_mapFields hd _)), by rw [Obj.cls_mapFields]; exact hc, by rw [Obj.data_mapFields hd]; simp [rawInt]⟩
  refine wpAny_bind (wpAny_holding (wpAny_bind (wpAny_isOneOf_keyiter (s := { s with heap := s.heap.update it (Obj.mapFields (·.setIfInBounds 1 (rawInt ((i : Int) + 1)))) }) h2.typeIs ?_)))
  exact wpAny_pure (wpAny_pure ⟨_, rfl, wpAny_pure (hQ _ h2 (Heap.SameBut.update ..))⟩)
theorem nx_keyEnd {it d : Addr} {i ep : Nat} {es : Array DictEntry} {Q : Value → Shared → Prop} (hh : A.handled = none) (hit : s.heap.IsKeyIter it d i es.size ep) (hm : s.heap.DictRaw d es ep) (hi : es.size ≤ i)
    (hE : ∀ h' e, Heap.ExtBut it s.heap h' → (∃ o, h'.get? e = some o ∧ o.cls = .type "StopIteration") → E (.ref e) { s with heap := h' }) : wpAny (model prog w) A (Builtin.SmallTypes.nextOf (.ref it)) Q E s := by
  obtain ⟨o, ho, hc, hd⟩ := id hit
  obtain ⟨od, hod, hcd, hdd⟩ := id hm
  unfold Builtin.SmallTypes.nextOf
  refine wpAny_bind (wpAny_callSpecial?_slot (name := Str.ofString "__next__") hit.typeIs F.slot_dict_keyiterator_next (wpAny_call_entry F.slot_dict_keyiterator_next hit.typeIs F.entry_dict_keyiterator_next ?_ (F.args_dict_keyiterator_next_1 _)))
  refine wpAny_bind (wpAny_pure (wpAny_bind (wpAny_bind ?_)))
  first | refine wpAny_bind (wpAny_typeNameOfWhole_keyiter hit.typeIs (wpAny_pure (wpAny_bind (wpAny_fieldsOf ho hd ?_)))) | refine wpAny_bind (wpAny_typeNameOf_keyiter hit.typeIs (wpAny_pure (wpAny_bind (wpAny_fieldsOf ho hd ?_))))
  have own0 : Builtin.Dict_items.ownsTuple "dict_keyiterator" = false := by decide
  simp only [own0, Bool.false_eq_true, if_false]
  show wpAny _ _ (if (Value.ref d == Value.none) = true then _ else _) _ E s
  rw [if_neg (show ¬ (Value.ref d == Value.none) = true from Bool.false_ne_true)]
  refine wpAny_bind (wpAny_pure (wpAny_bind (wpAny_dictEntries hod hdd ?_)))
  rw [if_neg (by simp)]
  refine wpAny_bind (wpAny_pure (wpAny_bind (wpAny_dictEpoch hod hdd ?_)))
  rw [if_neg (by simp)]
  refine wpAny_pure ?_
  simp only [show ¬ ((i : Int) < 0) by omega, if_false, Int.toNat_natCast, Array.getElem?_eq_none hi]
  refine wpAny_bind ?_
  first | refine wpAny_bind (wpAny_typeNameOfWhole_keyiter hit.typeIs (wpAny_pure ?_)) | refine wpAny_bind (wpAny_typeNameOf_keyiter hit.typeIs (wpAny_pure ?_))
  show wpAny _ _ (setField (.ref it) 0 .none >>= _) _ E s
  refine wpAny_bind (wpAny_setField ho hd (by simp) ?_)
  show wpAny _ _ (newExc (.type "StopIteration") [] >>= _) _ E _
  refine wpAny_bind ?_
  simp only [newExc, newTuple]
  refine wpAny_bind (wpAny_newObj_type (wpAny_bind (m := firstArgMember _ _) (wpAny_of_eq (a := Value.none) (by first | rfl | (simp only [firstArgMember]; rfl)) ?_)) (by size_fits))
  refine wpAny_newObj_type (wpAny_bind ?_) (by size_fits)
  simp only [raiseNew]
  refine wpAny_bind (wpAny_handled ?_)
  first | rw [show A.in1.handled = none from hh] | rw [hh]
  refine wpAny_pure (wpAny_throw ?_)
  refine hE _ _ (((Heap.SameBut.update ..).extBut.push _).push _) ?_
  exact ⟨_, Heap.get?_push_size _ rfl, rfl⟩
end
theorem drawsKeys {prog : Program} {w : World} {A : Around} (hh : A.handled = none) (it d : Addr) (hne : d ≠ it) (es : Array DictEntry) (ep : Nat) :
    Draws prog w A it [it, d] es.size (fun i v => ∃ e, es[i]? = some e ∧ v = e.key) (fun i h => h.IsKeyIter it d i es.size ep ∧ h.DictRaw d es ep) where
  live := fun _ _ st => let ⟨o, ho, _⟩ := st.1; ⟨o, ho⟩
  frame := fun _ _ _ st hk => ⟨st.1.at fun o e => hk it (by simp) o e, let ⟨o, a, b⟩ := st.2; ⟨o, hk d (by simp) o a, b⟩⟩
  item := fun i s Q E hi st hQ => nx_key st.1 st.2 hi fun h' hit' hs' => hQ _ h' s.toks ⟨es[i], by simp [hi], rfl⟩ ⟨hit', let ⟨o, a, b⟩ := st.2; ⟨o, (hs'.2 d hne).trans a, b⟩⟩ hs'
  done := fun s Q E st hE => nx_keyEnd hh st.1 st.2 (Nat.le_refl _) hE
theorem begins_keys (d : Addr) (es : Array DictEntry) (ep : Nat) (hd : (d == sysModules) = false) : Begins (.ref d) { cls := .type "dict_keyiterator", data := .fields #[.ref d, .int 0 0, .int es.size 0, .int ep 0] } fun h => h.DictRaw d es ep where
  iter := fun prog w A E s Q hl h => let ⟨o, ho, hc, hdt⟩ := hl; iter_keys hd ho hc hdt h
  keeps := fun h h' x hk => let ⟨o, a, b⟩ := x; ⟨o, hk d o a, b⟩
  free := rfl
set_option maxHeartbeats 1000000 in
theorem meets_enum1 {v : Value} {o : Obj} {G : Heap → Prop} (B : Begins v o G) :
    Meets (Builtin.«enumerate.__new__» ⟨[.type "enumerate", v], []⟩) (fun _ R s => G s.heap ∧ R (.ok (.ret (.ref (s.heap.push o).objs.size))) { s with heap := (s.heap.push o).push { cls := .type "enumerate", data := .fields #[.none, .bool false, .ref s.heap.objs.size, rawInt 0, .none, .none] } }) :=
  .of_wp fun prog w A R s h => by
    obtain ⟨hp, g, d, tk, os⟩ := s
    obtain ⟨h1, h⟩ := h
    have hsub := sub_enumerate
    have q1 : ∀ {B' : Around} {E' : Value → Shared → Prop} {Q : Value → Shared → Prop}, Q (.ref hp.objs.size) ⟨hp.push o, g, d, tk, os⟩ → wpAny (model prog w) B' (pyIter v) Q E' ⟨hp, g, d, tk, os⟩ := fun q => B.iter prog w _ _ ⟨hp, g, d, tk, os⟩ _ h1 q
    wp_walk using q1
    refine wpAny_stack_any fun st => wpAny_pure ?_
    split
    · rename_i c _ _ _ _ _
      cases (c == Value.type "enumerate") <;> (wp_walk using q1; exact ⟨_, rfl, h⟩)
    · wp_walk using q1
      exact ⟨_, rfl, h⟩
section
variable {prog : Program} {w : World} {A : Around} {E : Value → Shared → Prop} {s : Shared}
theorem enum_new {v : Value} {o : Obj} {G : Heap → Prop} {Q : Value → Shared → Prop} (B : Begins v o G) (h1 : G s.heap)
    (h : ∀ h', IsEnum h' (s.heap.objs.size + 1) s.heap.objs.size 0 .none → h'.get? s.heap.objs.size = some o → (∀ b o, s.heap.get? b = some o → h'.get? b = some o) → Q (.ref (s.heap.objs.size + 1)) { s with heap := h' }) :
    wpAny (model prog w) A (call (.type "enumerate") [v]) Q E s := by
  refine callType_new F.called_enumerate (by decide) (F.typeCall_enumerate_1 _) (F.newCall_enumerate_1 _) (fun obj => F.args_object_init_2 obj _) F.entry_enumerate_new (meets_enum1 B) ⟨h1, ?_⟩
  have hz : (s.heap.push o).objs.size = s.heap.objs.size + 1 := Heap.size_push ..
  show _ ∧ _
  rw [hz]
  have he : IsEnum ((s.heap.push o).push { cls := .type "enumerate", data := .fields #[.none, .bool false, .ref s.heap.objs.size, rawInt 0, .none, .none] }) (s.heap.objs.size + 1) s.heap.objs.size 0 .none := by
    have z := Heap.get?_push_size (s.heap.push o) (o := { cls := .type "enumerate", data := .fields #[.none, .bool false, .ref s.heap.objs.size, rawInt 0, .none, .none] }) rfl
    rw [hz] at z
    exact z
  exact ⟨⟨_, he, rfl⟩, h _ he (Heap.get?_push_of_some _ (Heap.get?_push_size _ B.free)) fun b o x => Heap.get?_push_of_some _ (Heap.get?_push_of_some _ x)⟩
end
/-- the state of an enumerate over what D draws -/
def EnSt (St : Nat → Heap → Prop) (e it : Addr) (i : Nat) (h : Heap) : Prop := (∃ old, IsEnum h e it ((i : Nat) : Int) old) ∧ St i h ∧ e ≠ it
section
variable {X : Cx} {pins : List (Addr × Obj)} {σ : L2.St} {H : Hp} {s : Shared} {E : Value → Shared → Prop} {e it : Addr} {fp : List Addr} {n i : Nat} {Pd : Nat → Value → Prop} {Sd : Nat → Heap → Prop} {J : It}
/-- one turn -/
theorem en_item {elts : List Expr} {kk : Nat} {tpos : Pos} (I : Inv X pins σ H s) (hf : ∀ b ∈ [e, it], FpOk X pins H b) (D : Draws X.prog X.w X.A.in1 it fp n Pd Sd) (hef : e ∉ fp) (he : IsEnum s.heap e it ((i : Nat) : Int) (old : Value)) (hst : Sd i s.heap) (hne : e ≠ it) (hi : i < n)
    (hx : ∀ u, Pd i u → ∃ x, RelV x u ∧ ∀ T, H T = none → J.yld i H (.ref T) (upd H T (.tup [.int (i : Nat), x]))) :
    wpAny (model X.prog X.w) X.A (pyNext (.ref e)) (fun r s1 => ∃ u, r = some u ∧ wpAny (model X.prog X.w) X.A (letOwnedTupleGo (.Tuple elts kk tpos) (.ref e) u) (fun _ s2 => ∃ x H', Inv X pins σ H' s2 ∧ RelV x u ∧ J.yld i H x H' ∧ EnSt Sd e it (i + 1) s2.heap ∧ ∀ b ∈ [e, it], H' b = none) E s1) E s := by
  have hel : e < s.heap.objs.size := Heap.lt_size he
  have hil : it < s.heap.objs.size := by
    obtain ⟨_, q⟩ := D.live _ _ hst
    exact Heap.lt_size q
  refine wpAny_pyNext_enum_itemD D he hst hi hne hef fun u h' tk hp ho hst' hT hsz hk => ?_
  obtain ⟨x, ru, hy⟩ := hx u hp
  refine ⟨_, rfl, wpAny_letOwnedTupleGo_enum (s := { s with heap := h', toks := tk + 1 }) ho fun h'' he' sb => ?_⟩
  have hT2 : h''.get? s.heap.objs.size = some { cls := .type "tuple", data := .seq #[.int i tk, u] } := (sb.2 _ (Nat.ne_of_gt hel)).trans hT
  have new : ObjOk X.prog X.w (upd H s.heap.objs.size (.tup [.int (i : Nat), x])) h'' s.heap.objs.size (.tup [.int (i : Nat), x]) :=
    ⟨by show 2 ≤ sizeLine; decide, [.int i tk, u], .cons ⟨_, rfl⟩ (.cons ru .nil), ⟨_, hT2, rfl, _, rfl⟩⟩
  have I1 : Inv X pins σ (upd H s.heap.objs.size (.tup [.int (i : Nat), x])) { s with heap := h'', toks := tk + 1 } :=
    I.turnedNew (ch := [e, it]) (fun b ob hb q => (sb.2 b (fun z => hb (by simp [z]))).trans (hk b ob (fun z => hb (by simp [z])) (fun z => hb (by simp [z])) q)) hf (Nat.le_refl _) new
  refine ⟨.ref s.heap.objs.size, _, I1, rfl, hy _ (I.hok.fresh (Nat.le_refl _)), ⟨⟨u, ?_⟩, D.frame _ _ _ hst' fun b hb ob q => (sb.2 b fun z => hef (z ▸ hb)).trans q, hne⟩, fun b hb => ?_⟩
  · have e1 : ((i + 1 : Nat) : Int) = (i : Int) + 1 := by omega
    rw [e1]
    exact he'
  · have hb' : b < s.heap.objs.size := by
      rcases (by simpa using hb : b = e ∨ b = it) with z | z <;> (rw [z]; assumption)
    rw [upd_ne (Nat.ne_of_lt hb')]
    exact (hf b hb).1
theorem en_done (I : Inv X pins σ H s) (hf : ∀ b ∈ [e, it], FpOk X pins H b) (D : Draws X.prog X.w X.A.in1 it fp n Pd Sd) (he : IsEnum s.heap e it ((i : Nat) : Int) (old : Value)) (hst : Sd n s.heap) :
    wpAny (model X.prog X.w) X.A (pyNext (.ref e)) (fun r s1 => r = none ∧ Inv X pins σ H s1) E s := by
  obtain ⟨f0, f1, f2, f3, f4, f5⟩ := hf it (by simp)
  exact wpAny_pyNext_enum_endD D he hst fun h' eb => ⟨rfl, I.turned (t' := s.toks) (fun b o hb q => eb b o hb q) f0 f1 f3 f4 f5⟩
end
/-- the tuple at a, each item in a new pair; the keys of the locked dict at d, each in a new pair -/
def Itet (K : PySem.W.Frag) (a : Addr) : It :=
  ⟨fun i H => ∃ xs x, SqT K H a xs ∧ xs[i]? = some x, fun i H v H' => ∃ T x, v = .ref T ∧ H T = none ∧ H' = upd H T (.tup [.int (i : Nat), x]) ∧ ∀ xs, SqT K H a xs → xs[i]? = some x, fun i H => ∃ xs, SqT K H a xs ∧ xs.length = i⟩
def Itek (d : Addr) (o : Obj) (kvs : List (L2.Key × V)) : It :=
  ⟨fun i H => H d = some (.frz o (.dK kvs)) ∧ i < kvs.length, fun i H v H' => ∃ T k y, v = .ref T ∧ H T = none ∧ H' = upd H T (.tup [.int (i : Nat), kV k]) ∧ kvs[i]? = some (k, y), fun i H => H d = some (.frz o (.dK kvs)) ∧ kvs.length = i⟩
section
variable {P : Program} {w : World} {K : PySem.W.Frag} {elts : List Expr} {kk : Nat} {tpos : Pos}
theorem en_obj {Sd : Nat → Heap → Prop} {e it : Addr} {i : Nat} {h : Heap} (st : EnSt Sd e it i h) (hs : ∃ o, h.get? it = some o ∧ ∀ v, o.data ≠ .cell v) : ∀ b ∈ [e, it], ∃ o, h.get? b = some o ∧ ∀ v, o.data ≠ .cell v := fun b hb => by
  obtain ⟨⟨old, he⟩, _, _⟩ := st
  rcases (by simpa using hb : b = e ∨ b = it) with z | z
  · rw [z]
    exact ⟨_, he, fun v q => by cases q⟩
  · rw [z]
    exact hs
theorem tup_apart {h : Heap} {a e it : Addr} {i : Nat} {items : Array Value} {c : Int} {old : Value} (p : h.IsTuple a items) (hit : h.IsTupleIter it a i) (he : IsEnum h e it c old) : a ≠ it ∧ a ≠ e := by
  obtain ⟨ot, et, ct, _⟩ := p
  refine ⟨fun z => ?_, fun z => ?_⟩
  · obtain ⟨oi, ei, ci, di⟩ := hit
    rw [z, ei] at et
    cases et
    rw [ci] at ct
    exact absurd (Value.type.inj ct) (by decide)
  · rw [z, show h.get? e = _ from he] at et
    cases et
    exact absurd (Value.type.inj ct) (by decide)
theorem dct_apart {h : Heap} {d e it : Addr} {i n ep : Nat} {o : Obj} {c : Int} {old : Value} (ho : h.get? d = some o) (hx : o.ExactDict) (hit : h.IsKeyIter it d i n ep) (he : IsEnum h e it c old) : d ≠ it ∧ d ≠ e := by
  have ct : o.cls = .type "dict" := hx.1
  refine ⟨fun z => ?_, fun z => ?_⟩
  · obtain ⟨oi, ei, ci, di⟩ := hit
    rw [z, ei] at ho
    cases ho
    rw [ci] at ct
    exact absurd (Value.type.inj ct) (by decide)
  · rw [z, show h.get? e = _ from he] at ho
    cases ho
    exact absurd (Value.type.inj ct) (by decide)
theorem turn_enumT (a e it : Addr) : Turn P w K (.Tuple elts kk tpos) (Itet K a) [e, it] e (EnSt (fun i h => h.IsTupleIter it a i) e it) where
  mem := by simp
  obj := fun i h st => en_obj st (let ⟨o, ho, hc, hd⟩ := st.2.1; ⟨o, ho, fun v q => by rw [hd] at q; cases q⟩)
  keep := fun i h h' st k => let ⟨⟨old, he⟩, hi, hne⟩ := st; ⟨⟨old, k e (by simp) _ he⟩, hi.at fun o q => k it (by simp) o q, hne⟩
  item := by
    intro X hP hw hK hc i pins s σ H E I hf st hg
    subst hP hw hK
    obtain ⟨⟨old, he⟩, hit, hne⟩ := st
    obtain ⟨xs, x, hq, hx⟩ := hg
    obtain ⟨its, rv, p, hz⟩ := I.tuple hq
    obtain ⟨u, hu, ru⟩ := rv.get hx
    obtain ⟨hai, hae⟩ := tup_apart p hit he
    refine thn (en_item (J := Itet X.K a) I hf (Draws.tuple (A := X.A.in1) (I.ok.hd hc) it a hai its.toArray) (fun z => (List.mem_cons.mp z).elim hne fun z => (Ne.symm hae) (List.mem_singleton.mp z)) he ⟨hit, p⟩ hne (i := i) (by have := (List.getElem?_eq_some_iff.mp hu).1; simpa using this) fun v hv => ?_) fun r s1 ⟨u1, hr, q⟩ => ⟨u1, hr, thn q fun _ s2 ⟨x1, H', I', r', y', st', f'⟩ => ⟨x1, H', I', r', y', (let ⟨z1, z2, z3⟩ := st'; ⟨z1, z2.1, z3⟩), f'⟩⟩
    have e1 : v = u := by
      have z : its.toArray[i]? = some v := hv
      rw [List.getElem?_toArray, hu] at z
      exact (Option.some.inj z).symm
    rw [e1]
    exact ⟨x, ru, fun T hT => ⟨T, x, rfl, hT, rfl, fun ys hy => by rw [I.tuple_inj hy hq]; exact hx⟩⟩
  done := by
    intro X hP hw hK hc i pins s σ H E I hf st hg
    subst hP hw hK
    obtain ⟨⟨old, he⟩, hit, hne⟩ := st
    obtain ⟨xs, hq, hx⟩ := hg
    obtain ⟨its, rv, p, hz⟩ := I.tuple hq
    obtain ⟨hai, hae⟩ := tup_apart p hit he
    have hl := rv.length
    have e1 : i = its.toArray.size := by simp; omega
    rw [e1] at he hit
    exact en_done I hf (Draws.tuple (A := X.A.in1) (I.ok.hd hc) it a hai its.toArray) he ⟨hit, p⟩
  self := fun A i s Q E st h => let ⟨⟨_, he⟩, _⟩ := st; wpAny_pyIter_enum he h
theorem turn_enumK {d : Addr} {o : Obj} {kvs : List (L2.Key × V)} {es : Array DictEntry} {ep : Nat} (hod : o.data = .dict es ep) (e it : Addr) : Turn P w K (.Tuple elts kk tpos) (Itek d o kvs) [e, it] e (EnSt (fun i h => h.IsKeyIter it d i es.size ep) e it) where
  mem := by simp
  obj := fun i h st => en_obj st (let ⟨o, ho, hc, hd⟩ := st.2.1; ⟨o, ho, fun v q => by rw [hd] at q; cases q⟩)
  keep := fun i h h' st k => let ⟨⟨old, he⟩, hi, hne⟩ := st; ⟨⟨old, k e (by simp) _ he⟩, hi.at fun o q => k it (by simp) o q, hne⟩
  item := by
    intro X hP hw hK hc i pins s σ H E I hf st hg
    subst hP hw hK
    obtain ⟨⟨old, he⟩, hit, hne⟩ := st
    obtain ⟨hq, hi⟩ := hg
    obtain ⟨hs, hgd, hx, es', ep', vs, hdt, hsz, kv, hm⟩ := I.frzK hq
    obtain ⟨rfl, rfl⟩ := dict_ep hod hdt
    obtain ⟨hdi, hde⟩ := dct_apart hgd hx hit he
    have hl : kvs.length = vs.length := Paired.length kv
    refine thn (en_item (J := Itek d o kvs) I hf (drawsKeys (A := X.A.in1) (I.ok.hd hc) it d hdi es' ep') (fun z => (List.mem_cons.mp z).elim hne fun z => (Ne.symm hde) (List.mem_singleton.mp z)) he ⟨hit, ⟨o, hgd, hx, hdt⟩⟩ hne (i := i) (by omega) fun v hv => ?_) fun r s1 ⟨u1, hr, q⟩ => ⟨u1, hr, thn q fun _ s2 ⟨x1, H', I', r', y', st', f'⟩ => ⟨x1, H', I', r', y', (let ⟨z1, z2, z3⟩ := st'; ⟨z1, z2.1, z3⟩), f'⟩⟩
    obtain ⟨en, hen, rfl⟩ := hv
    obtain ⟨⟨k, y⟩, hkv⟩ : ∃ p, kvs[i]? = some p := ⟨kvs[i], List.getElem?_eq_getElem hi⟩
    obtain ⟨u, hu, ru⟩ := kv_get kv hkv
    obtain ⟨o2, es2, ho2, _, hd2, _, hp2, _⟩ := hm
    rw [hgd] at ho2
    cases ho2
    obtain ⟨rfl, _⟩ := dict_ep hdt hd2
    have z := (hp2.get? (e := en) (by rw [Array.getElem?_toList]; exact hen) hu).1
    exact ⟨kV k, relV_key z, fun T hT => ⟨T, k, y, rfl, hT, rfl, hkv⟩⟩
  done := by
    intro X hP hw hK hc i pins s σ H E I hf st hg
    subst hP hw hK
    obtain ⟨⟨old, he⟩, hit, hne⟩ := st
    obtain ⟨hq, hi⟩ := hg
    obtain ⟨hs, hgd, hx, es', ep', vs, hdt, hsz, kv, hm⟩ := I.frzK hq
    obtain ⟨rfl, rfl⟩ := dict_ep hod hdt
    obtain ⟨hdi, hde⟩ := dct_apart hgd hx hit he
    have e1 : i = es'.size := by omega
    rw [e1] at he hit
    exact en_done I hf (drawsKeys (A := X.A.in1) (I.ok.hd hc) it d hdi es' ep') he ⟨hit, ⟨o, hgd, hx, hdt⟩⟩
  self := fun A i s Q E st h => let ⟨⟨_, he⟩, _⟩ := st; wpAny_pyIter_enum he h
theorem walk_enumT {a : Addr} {xs : List V} : Walk (Itet K a) xs.length (fun H => SqT K H a xs) (YPair (fun i => some (.int (i : Nat))) fun i => xs[i]?) :=
  ⟨fun i _ hi q => ⟨xs, xs[i], q, by simp [hi]⟩, fun _ q => ⟨xs, q, rfl⟩, fun i H v H' hi q ⟨T, x, a1, a2, a3, a4⟩ => ⟨T, _, x, a1, a2, a3, rfl, a4 xs q⟩⟩
theorem walk_enumK {d : Addr} {o : Obj} {kvs : List (L2.Key × V)} : Walk (Itek d o kvs) kvs.length (fun H => H d = some (.frz o (.dK kvs))) (YPair (fun i => some (.int (i : Nat))) fun i => (kvs[i]?).map fun p => kV p.1) :=
  ⟨fun i _ hi q => ⟨q, hi⟩, fun _ q => ⟨q, rfl⟩, fun i H v H' hi q ⟨T, k, y, a1, a2, a3, a4⟩ => ⟨T, _, kV k, a1, a2, a3, rfl, by simp only [a4, Option.map_some]⟩⟩
end
/-- enumerate(a tuple | a list), enumerate(a locked dict) -/
def iEnumS (K : PySem.W.Frag) (ta : TA) : TI := fun σ H R => ta σ H fun vs H1 => ∃ a, vs = [.ref a] ∧ (((∃ xs, SqL K H1 a xs) ∧ R (Ite K a) H1) ∨ ((∃ xs, SqT K H1 a xs) ∧ R (Itet K a) H1) ∨ (∃ o kvs, H1 a = some (.frz o (.dK kvs)) ∧ R (Itek a o kvs) H1))
section
variable {X : Cx}
theorem en_fp {pins : List (Addr × Obj)} {σ : L2.St} {H : Hp} {s : Shared} (I : Inv X pins σ H s) : ∀ b ∈ [s.heap.objs.size + 1, s.heap.objs.size], FpOk X pins H b := fun b hb => by
  have hle : s.heap.objs.size ≤ b := by
    rcases (by simpa using hb : b = s.heap.objs.size + 1 ∨ b = s.heap.objs.size) with z | z <;> omega
  exact I.fpOk hle (I.hok.fresh hle)
theorem pi_enumS {e : Expr} {ta : TA} {p pos tpos : Pos} {elts : List Expr} {kk : Nat} (hg : Gl X "enumerate") (hm : X.mg "enumerate" = none) (ha : PA X [e] ta) (hs : starEach [e] X.env = [(false, eval e X.env)] := by rfl) :
    PI X (.Tuple elts kk tpos) (.Call (.Name "enumerate" p) [e] [] pos) (iEnumS X.K ta) := by
  refine ⟨fun pins s σ H R I h => Call_ (ld_blt I hg hm boot_enumerate (PyProof.Rows.callWith_type1 (thn (ha.run pos pins s σ H _ I h) fun us s1 ⟨vs, H1, I1, r1, a, ex, q1⟩ => ?_) hs rfl))⟩
  subst ex
  cases r1 with
  | cons r rr =>
    cases rr
    cases r
    have Ik : ∀ h', (∀ b o, s1.heap.get? b = some o → h'.get? b = some o) → Inv X pins σ H1 { s1 with heap := h' } := fun h' hk => I1.kept (t' := s1.toks) hk
    rcases q1 with ⟨⟨xs, hq⟩, q⟩ | ⟨⟨xs, hq⟩, q⟩ | ⟨o, kvs, hq, q⟩
    · obtain ⟨its, rv, p', hz⟩ := I1.list hq
      refine call_enumerate_list p'.isList fun h' he hit _ hk => wpAny_pyIter_enum he ?_
      exact ⟨_, [s1.heap.objs.size + 1, s1.heap.objs.size], _, _, H1, rfl, Ik h' hk, turn_enum a (s1.heap.objs.size + 1) s1.heap.objs.size, ⟨⟨.none, he⟩, hit, Nat.succ_ne_self _⟩, en_fp I1, q⟩
    · obtain ⟨its, rv, p', hz⟩ := I1.tuple hq
      refine enum_new (begins_tuple a its.toArray) p' fun h' he ho hk => wpAny_pyIter_enum he ?_
      exact ⟨_, [s1.heap.objs.size + 1, s1.heap.objs.size], _, _, H1, rfl, Ik h' hk, turn_enumT a (s1.heap.objs.size + 1) s1.heap.objs.size, ⟨⟨.none, he⟩, ⟨_, ho, rfl, rfl⟩, Nat.succ_ne_self _⟩, en_fp I1, q⟩
    · obtain ⟨hs', hgd, hx, es, ep, vs, hdt, hsz, kv, hm'⟩ := I1.frzK hq
      refine enum_new (begins_keys a es ep hs') ⟨o, hgd, hx, hdt⟩ fun h' he ho hk => wpAny_pyIter_enum he ?_
      exact ⟨_, [s1.heap.objs.size + 1, s1.heap.objs.size], _, _, H1, rfl, Ik h' hk, turn_enumK hdt (s1.heap.objs.size + 1) s1.heap.objs.size, ⟨⟨.none, he⟩, ⟨_, ho, rfl, rfl⟩, Nat.succ_ne_self _⟩, en_fp I1, q⟩
end
end GN

/-! Sleeping generators: what runs beside them leaves them as they are. -/
namespace GF
open PySem PyProof.Rows
open Sem (wp)

/-- a frame that is no generator's, at the same place -/
def dull : Frame → Frame
  | .ret k h g l c p kp => .ret k h g l c p kp
  | .gen _ _ l c p => .ret (fun _ => .unsupported "") none false l c p []
theorem dull_where : ∀ f : Frame, (dull f).where_ = f.where_
  | .ret .. => rfl
  | .gen .. => rfl
theorem split_dull : ∀ fs : List Frame, splitAtGen (fs.map dull) = none
  | [] => rfl
  | .ret k h g l c p kp :: fs => by
    rw [List.map_cons]
    show splitAtGen (.ret k h g l c p kp :: fs.map dull) = none
    rw [splitAtGen_ret, split_dull fs]; rfl
  | .gen g k l c p :: fs => by
    rw [List.map_cons]
    show splitAtGen (.ret (fun _ => .unsupported "") none false l c p [] :: fs.map dull) = none
    rw [splitAtGen_ret, split_dull fs]; rfl
/-- no generator's frame among those that it keeps -/
def Clear (st : GenState) : Prop := match st with
  | .suspended _ _ _ _ fs _ => splitAtGen fs = none
  | _ => True
def ClearE (e : End) : Prop := match e with
  | .susp _ _ _ _ _ _ fs => splitAtGen fs = none
  | .ret _ => True
theorem ClearE.state {e : End} (h : ClearE e) : Clear e.genState := by
  cases e with
  | ret r => exact True.intro
  | susp v g l k c p fs => exact h
def asleep : GenState → Bool
  | .suspended .. => true
  | _ => false
/-- the same to look at, but not to be woken -/
def poison : GenState → GenState
  | .suspended _ l c p fs cl => .suspended (fun _ => .unsupported "") l c p (fs.map dull) cl
  | st => st
theorem poison_seen : ∀ st : GenState, (poison st).seen = st.seen
  | .suspended k l c p fs cl => by
    show (GenStatus.suspended, some ((c, p) :: (fs.map dull).map Frame.where_)) = (GenStatus.suspended, some ((c, p) :: fs.map Frame.where_))
    rw [List.map_map]
    have e : (Frame.where_ ∘ dull) = Frame.where_ := funext dull_where
    rw [e]
  | .fresh _ => rfl
  | .running => rfl
  | .finished => rfl
theorem poison_clear : ∀ st : GenState, Clear (poison st)
  | .suspended k l c p fs cl => split_dull fs
  | .fresh _ => True.intro
  | .running => True.intro
  | .finished => True.intro
theorem poison_awake {st : GenState} (h : asleep st = false) : poison st = st := by
  cases st <;> first | rfl | cases h
theorem poison_bare (st : GenState) : (poison st).bare = st.bare := by cases st <;> rfl

/-- a: the generators of a run in which those that slept at first (g0) can't be woken; b: of the run as it is -/
structure Sim (g0 a b : Array GenState) : Prop where
  size : a.size = b.size
  le : g0.size ≤ a.size
  slept : ∀ (i : Nat) (st : GenState), g0[i]? = some st → asleep st = true → a[i]? = some (poison st) ∧ b[i]? = some st
  other : ∀ (i : Nat), (∀ st, g0[i]? = some st → asleep st = false) → a[i]? = b[i]?
  clear : ∀ (i : Nat) (st : GenState), a[i]? = some st → Clear st

section
variable {g0 a b : Array GenState}
theorem Sim.start : Sim g0 (g0.map poison) g0 where
  size := by simp
  le := by simp
  slept := fun i st h _ => ⟨by rw [Array.getElem?_map, h]; rfl, h⟩
  other := fun i h => by
    rw [Array.getElem?_map]
    cases e : g0[i]? with
    | none => rfl
    | some st => rw [Option.map_some, poison_awake (h st e)]
  clear := fun i st h => by
    rw [Array.getElem?_map] at h
    cases e : g0[i]? with
    | none => rw [e] at h; cases h
    | some x =>
      rw [e, Option.map_some] at h
      cases h
      exact poison_clear x
theorem Sim.push (h : Sim g0 a b) {x : GenState} (hx : Clear x) : Sim g0 (a.push x) (b.push x) where
  size := by simp [h.size]
  le := by have := h.le; simp; omega
  slept := fun i st e hs => by
    have hi : i < g0.size := (Array.getElem?_eq_some_iff.mp e).1
    have h1 := h.le
    have h2 := h.size
    obtain ⟨p, q⟩ := h.slept i st e hs
    rw [Array.getElem?_push, Array.getElem?_push, if_neg (by omega), if_neg (by omega)]
    exact ⟨p, q⟩
  other := fun i e => by
    rw [Array.getElem?_push, Array.getElem?_push, h.size, h.other i e]
  clear := fun i st e => by
    rw [Array.getElem?_push] at e
    split at e
    · cases e; exact hx
    · exact h.clear i st e
/-- who is woken, or ends, did not sleep at first -/
theorem Sim.awake (h : Sim g0 a b) {i : Nat} {st : GenState} (e : a[i]? = some st) (n : ∀ x, asleep x = true → st ≠ poison x) : ∀ x, g0[i]? = some x → asleep x = false := fun x ex => by
  cases q : asleep x with
  | false => rfl
  | true =>
    obtain ⟨p, _⟩ := h.slept i x ex q
    rw [e] at p
    exact absurd (Option.some.inj p) (n x q)
theorem Sim.set (h : Sim g0 a b) {i : Nat} {x : GenState} (n : ∀ st, g0[i]? = some st → asleep st = false) (hx : Clear x) : Sim g0 (a.setIfInBounds i x) (b.setIfInBounds i x) where
  size := by simp [h.size]
  le := by simpa using h.le
  slept := fun j st e hs => by
    have hj : i ≠ j := fun z => by
      subst z
      rw [n st e] at hs
      cases hs
    rw [Array.getElem?_setIfInBounds_ne hj, Array.getElem?_setIfInBounds_ne hj]
    exact h.slept j st e hs
  other := fun j e => by
    by_cases hj : i = j
    · subst hj
      rw [Array.getElem?_setIfInBounds_self, Array.getElem?_setIfInBounds_self, h.size]
    · rw [Array.getElem?_setIfInBounds_ne hj, Array.getElem?_setIfInBounds_ne hj]
      exact h.other j e
  clear := fun j st e => by
    by_cases hj : i = j
    · subst hj
      rw [Array.getElem?_setIfInBounds_self] at e
      split at e
      · cases e; exact hx
      · cases e
    · rw [Array.getElem?_setIfInBounds_ne hj] at e
      exact h.clear j st e
end

theorem no_unsupported {M : Model} {Γ : Ctx} {p : Pos} {t : Sem PySem.Fin} {fs : List Frame} {s s' : Shared} {e : End} (h : Runs M Γ p t fs s e s') : ∀ w, t ≠ .unsupported w := by
  induction h with
  | segRet _ _ ih _ => exact ih
  | segGen _ _ ih _ => exact ih
  | segSuspOut _ _ ih => exact ih
  | segSuspGen _ _ _ _ ih _ => exact ih
  | _ => intro w z; cases z

theorem split_tail {k h g l c p kp} {fs : List Frame} (e : splitAtGen (.ret k h g l c p kp :: fs) = none) : splitAtGen fs = none := by
  rw [splitAtGen_ret] at e
  cases q : splitAtGen fs with
  | none => rfl
  | some x => rw [q] at e; cases e
theorem split_two {a b : List Frame} (h1 : splitAtGen a = none) (h2 : splitAtGen b = none) : splitAtGen (a ++ b) = none := by
  rw [splitAtGen_append_none _ h1, h2]; rfl

/-- the state with other generators -/
abbrev wg (s : Shared) (b : Array GenState) : Shared := { s with gens := b }

theorem runs_sim {M : Model} {g0 : Array GenState} {Γ : Ctx} {p : Pos} {t : Sem PySem.Fin} {fs : List Frame} {s s' : Shared} {e : End} (h : Runs M Γ p t fs s e s') :
    splitAtGen fs = none → ∀ b, Sim g0 s.gens b → ClearE e ∧ ∃ b', Sim g0 s'.gens b' ∧ Runs M Γ p t fs (wg s b) e (wg s' b') := by
  induction h with
  | done => exact fun _ b S => ⟨True.intro, b, S, .done⟩
  | raise => exact fun _ b S => ⟨True.intro, b, S, .raise⟩
  | again hq _ ih => exact fun h b S => let ⟨c, b', S', r⟩ := ih h b S; ⟨c, b', S', .again hq r⟩
  | rule _ ih => exact fun h b S => let ⟨c, b', S', r⟩ := ih h b S; ⟨c, b', S', .rule r⟩
  | «at» _ ih => exact fun h b S => let ⟨c, b', S', r⟩ := ih h b S; ⟨c, b', S', .at r⟩
  | load ho _ ih => exact fun h b S => let ⟨c, b', S', r⟩ := ih h b S; ⟨c, b', S', .load ho r⟩
  | update ho _ ih => exact fun h b S => let ⟨c, b', S', r⟩ := ih h b S; ⟨c, b', S', .update ho r⟩
  | loadIfAlive _ ih => exact fun h b S => let ⟨c, b', S', r⟩ := ih h b S; ⟨c, b', S', .loadIfAlive r⟩
  | point _ ih => exact fun h b S => let ⟨c, b', S', r⟩ := ih h b S; ⟨c, b', S', .point r⟩
  | alloc _ ih => exact fun h b S => let ⟨c, b', S', r⟩ := ih h b S; ⟨c, b', S', .alloc r⟩
  | fresh _ ih => exact fun h b S => let ⟨c, b', S', r⟩ := ih h b S; ⟨c, b', S', .fresh r⟩
  | ask _ ih => exact fun h b S => let ⟨c, b', S', r⟩ := ih h b S; ⟨c, b', S', .ask r⟩
  | choose hn _ ih => exact fun h b S => let ⟨c, b', S', r⟩ := ih h b S; ⟨c, b', S', .choose hn r⟩
  | os _ ih => exact fun h b S => let ⟨c, b', S', r⟩ := ih h b S; ⟨c, b', S', .os r⟩
  | handled _ ih => exact fun h b S => let ⟨c, b', S', r⟩ := ih h b S; ⟨c, b', S', .handled r⟩
  | stack _ ih => exact fun h b S => let ⟨c, b', S', r⟩ := ih h b S; ⟨c, b', S', .stack r⟩
  | thread _ ih => exact fun h b S => let ⟨c, b', S', r⟩ := ih h b S; ⟨c, b', S', .thread r⟩
  | @genState g st Γ p k s e s' hg _ ih =>
    intro h b S
    obtain ⟨c, b', S', r⟩ := ih h b S
    refine ⟨c, b', S', ?_⟩
    cases q : g0[g]? with
    | none => exact .genState (st := st) ((S.other g fun x ex => by rw [q] at ex; cases ex).symm.trans hg) r
    | some x =>
      cases z : asleep x with
      | false => exact .genState (st := st) ((S.other g fun y ey => by rw [q] at ey; cases ey; exact z).symm.trans hg) r
      | true =>
        obtain ⟨h1, h2⟩ := S.slept g x q z
        rw [hg] at h1
        have e1 : st = poison x := Option.some.inj h1
        refine .genState (st := x) h2 ?_
        rw [← poison_seen x, ← e1]
        exact r
  | @newGen Γ p k s e s' c _ ih =>
    intro h b S
    obtain ⟨c1, b', S', r⟩ := ih h (b.push (.fresh c)) (S.push True.intro)
    refine ⟨c1, b', S', .newGen ?_⟩
    show Runs M _ _ (k b.size) [] _ _ _
    rw [← S.size]
    exact r
  | call _ _ ih1 ih2 =>
    intro h b S
    obtain ⟨c1, b1, S1, r1⟩ := ih1 rfl b S
    obtain ⟨c2, b2, S2, r2⟩ := ih2 rfl b1 S1
    exact ⟨c2, b2, S2, .call r1 r2⟩
  | callSusp _ ih =>
    intro h b S
    obtain ⟨c1, b1, S1, r1⟩ := ih rfl b S
    exact ⟨split_two c1 rfl, b1, S1, .callSusp r1⟩
  | yield => exact fun _ b S => ⟨rfl, b, S, .yield⟩
  | @resumeFresh Γ p g l k s c e₁ s₁ e s' hg _ hq _ ih1 ih2 =>
    intro h b S
    have n := S.awake hg fun x hx z => by cases x <;> first | (cases hx; done) | (cases z; done)
    obtain ⟨c1, b1, S1, r1⟩ := ih1 rfl (b.setIfInBounds g .running) (S.set n True.intro)
    obtain ⟨c2, b2, S2, r2⟩ := ih2 rfl (b1.setIfInBounds g e₁.genState) (S1.set n c1.state)
    exact ⟨c2, b2, S2, .resumeFresh ((S.other g n).symm.trans hg) r1 hq r2⟩
  | @resumeSuspended Γ p g r l k s k₀ l₀ c₀ p₀ fs cl e₁ s₁ e s' hg hr hq _ ih1 ih2 =>
    intro h b S
    cases q : g0[g]? with
    | none =>
      have n : ∀ x, g0[g]? = some x → asleep x = false := fun x ex => by rw [q] at ex; cases ex
      obtain ⟨c1, b1, S1, r1⟩ := ih1 (S.clear g _ hg) (b.setIfInBounds g .running) (S.set n True.intro)
      obtain ⟨c2, b2, S2, r2⟩ := ih2 rfl (b1.setIfInBounds g e₁.genState) (S1.set n c1.state)
      exact ⟨c2, b2, S2, .resumeSuspended ((S.other g n).symm.trans hg) r1 hq r2⟩
    | some x =>
      cases z : asleep x with
      | false =>
        have n : ∀ y, g0[g]? = some y → asleep y = false := fun y ey => by rw [q] at ey; cases ey; exact z
        obtain ⟨c1, b1, S1, r1⟩ := ih1 (S.clear g _ hg) (b.setIfInBounds g .running) (S.set n True.intro)
        obtain ⟨c2, b2, S2, r2⟩ := ih2 rfl (b1.setIfInBounds g e₁.genState) (S1.set n c1.state)
        exact ⟨c2, b2, S2, .resumeSuspended ((S.other g n).symm.trans hg) r1 hq r2⟩
      | true =>
        obtain ⟨h1, _⟩ := S.slept g x q z
        rw [hg] at h1
        have e1 := Option.some.inj h1
        cases x with
        | suspended k l c p fs cl =>
          injection e1 with e2
          subst e2
          exact absurd rfl (no_unsupported hr "")
        | _ => cases z
  | @resumeJustStarted g v Γ p k s e s' l c hg hv _ ih =>
    intro h b S
    have n := S.awake hg fun x hx z => by cases x <;> first | (cases hx; done) | (cases z; done)
    obtain ⟨c1, b1, S1, r1⟩ := ih rfl b S
    exact ⟨c1, b1, S1, .resumeJustStarted ((S.other g n).symm.trans hg) hv r1⟩
  | @resumeThrowFresh g Γ p k e s' x l s c hg _ ih =>
    intro h b S
    have n := S.awake hg fun x hx z => by cases x <;> first | (cases hx; done) | (cases z; done)
    obtain ⟨c1, b1, S1, r1⟩ := ih rfl (b.setIfInBounds g .finished) (S.set n True.intro)
    exact ⟨c1, b1, S1, .resumeThrowFresh ((S.other g n).symm.trans hg) r1⟩
  | @resumeRunning g Γ p k s e s' r l hg _ ih =>
    intro h b S
    have n := S.awake hg fun x hx z => by cases x <;> first | (cases hx; done) | (cases z; done)
    obtain ⟨c1, b1, S1, r1⟩ := ih rfl b S
    exact ⟨c1, b1, S1, .resumeRunning ((S.other g n).symm.trans hg) r1⟩
  | @resumeFinished g Γ p k s e s' r l hg _ ih =>
    intro h b S
    have n := S.awake hg fun x hx z => by cases x <;> first | (cases hx; done) | (cases z; done)
    obtain ⟨c1, b1, S1, r1⟩ := ih rfl b S
    exact ⟨c1, b1, S1, .resumeFinished ((S.other g n).symm.trans hg) r1⟩
  | segRet _ _ ih1 ih2 =>
    intro h b S
    obtain ⟨c1, b1, S1, r1⟩ := ih1 rfl b S
    obtain ⟨c2, b2, S2, r2⟩ := ih2 (split_tail h) b1 S1
    exact ⟨c2, b2, S2, .segRet r1 r2⟩
  | segGen _ _ _ _ => intro h; cases h
  | segSuspOut hs _ ih =>
    intro h b S
    obtain ⟨c1, b1, S1, r1⟩ := ih rfl b S
    exact ⟨split_two c1 h, b1, S1, .segSuspOut hs r1⟩
  | segSuspGen hs _ _ _ _ _ =>
    intro h
    rw [h] at hs
    cases hs

theorem wakes_sim {M : Model} {g0 : Array GenState} {Γ : Ctx} {p : Pos} {g : Nat} {r : Resume} {s s' : Shared} {res : GenResult} (h : Wakes M Γ p g r s res s') (b : Array GenState) (S : Sim g0 s.gens b) :
    ∃ b', Sim g0 s'.gens b' ∧ Wakes M Γ p g r (wg s b) res (wg s' b') := by
  have key : ∀ {k : GenResult → Sem PySem.Fin}, True := fun {_} => True.intro
  unfold Wakes at h
  cases e : s.gens[g]? with
  | none => rw [e] at h; exact h.elim
  | some st =>
    rw [e] at h
    cases st with
    | fresh c =>
      have n := S.awake e fun x hx z => by cases x <;> first | (cases hx; done) | (cases z; done)
      have eb : (wg s b).gens[g]? = some (.fresh c) := (S.other g n).symm.trans e
      cases r with
      | send v =>
        cases v with
        | none =>
          obtain ⟨e₁, s₁, hr, hq, h1, h2⟩ := h
          obtain ⟨c1, b1, S1, r1⟩ := runs_sim hr rfl (b.setIfInBounds g .running) (S.set n True.intro)
          subst h2
          refine ⟨b1.setIfInBounds g e₁.genState, S1.set n c1.state, ?_⟩
          unfold Wakes
          rw [eb]
          exact ⟨e₁, wg s₁ b1, r1, hq, h1, rfl⟩
        | _ =>
          obtain ⟨h1, h2⟩ := h
          subst h2
          refine ⟨b, S, ?_⟩
          unfold Wakes
          rw [eb]
          exact ⟨h1, rfl⟩
      | throw x =>
        obtain ⟨h1, h2⟩ := h
        subst h2
        refine ⟨b.setIfInBounds g .finished, S.set n True.intro, ?_⟩
        unfold Wakes
        rw [eb]
        exact ⟨h1, rfl⟩
    | suspended k₀ l₀ c₀ p₀ fs cl =>
      obtain ⟨e₁, s₁, hr, hq, h1, h2⟩ := h
      have n : ∀ x, g0[g]? = some x → asleep x = false := fun x ex => by
        cases z : asleep x with
        | false => rfl
        | true =>
          obtain ⟨q1, _⟩ := S.slept g x ex z
          rw [e] at q1
          have e1 := Option.some.inj q1
          cases x with
          | suspended k l c p fs cl =>
            injection e1 with e2
            subst e2
            exact absurd rfl (no_unsupported hr "")
          | _ => cases z
      have eb : (wg s b).gens[g]? = some (.suspended k₀ l₀ c₀ p₀ fs cl) := (S.other g n).symm.trans e
      obtain ⟨c1, b1, S1, r1⟩ := runs_sim hr (S.clear g _ e) (b.setIfInBounds g .running) (S.set n True.intro)
      subst h2
      refine ⟨b1.setIfInBounds g e₁.genState, S1.set n c1.state, ?_⟩
      unfold Wakes
      rw [eb]
      exact ⟨e₁, wg s₁ b1, r1, hq, h1, rfl⟩
    | running =>
      have n := S.awake e fun x hx z => by cases x <;> first | (cases hx; done) | (cases z; done)
      have eb : (wg s b).gens[g]? = some .running := (S.other g n).symm.trans e
      obtain ⟨h1, h2⟩ := h
      refine ⟨b, by rw [h2]; exact S, ?_⟩
      unfold Wakes
      rw [eb]
      exact ⟨h1, by rw [h2]⟩
    | finished =>
      have n := S.awake e fun x hx z => by cases x <;> first | (cases hx; done) | (cases z; done)
      have eb : (wg s b).gens[g]? = some .finished := (S.other g n).symm.trans e
      obtain ⟨h1, h2⟩ := h
      refine ⟨b, by rw [h2]; exact S, ?_⟩
      unfold Wakes
      rw [eb]
      exact ⟨h1, by rw [h2]⟩

theorem wp_sim {α : Type} (M : Model) (Γ : Ctx) (g0 : Array GenState) (t : Sem α) : ∀ (Q : α → Pos → Shared → Prop) (E : Value → Pos → Shared → Prop) (p : Pos) (s : Shared) (b : Array GenState), Sim g0 s.gens b → wp M Γ t Q E p s →
    wp M Γ t (fun a p' s' => ∃ g', Sim g0 g' s'.gens ∧ Q a p' (wg s' g')) (fun e p' s' => ∃ g', Sim g0 g' s'.gens ∧ E e p' (wg s' g')) p (wg s b) := by
  induction t with
  | pure a => intro Q E p s b S h; exact ⟨s.gens, S, h⟩
  | raise e => intro Q E p s b S h; exact ⟨s.gens, S, h⟩
  | unsupported _ => intro Q E p s b S h; exact h
  | finish _ => intro Q E p s b S h; exact h
  | rule _ k ih => intro Q E p s b S h; exact ih () Q E p s b S h
  | «at» p' k ih => intro Q E p s b S h; exact ih () Q E p' s b S h
  | load a _ k ih => intro Q E p s b S h; obtain ⟨o, ho, h⟩ := h; exact ⟨o, ho, ih o Q E p s b S h⟩
  | update a _ f k ih => intro Q E p s b S h; exact ⟨h.1, ih () Q E p { s with heap := s.heap.update a f } b S h.2⟩
  | loadIfAlive a k ih => intro Q E p s b S h; exact ih _ Q E p s b S h
  | point _ k ih => intro Q E p s b S h; exact ih () Q E p s b S h
  | register _ _ => intro Q E p s b S h; exact h
  | alloc o k ih => intro Q E p s b S h; exact ih _ Q E p { s with heap := s.heap.push o } b S h
  | fresh k ih => intro Q E p s b S h; exact ih _ Q E p { s with toks := s.toks + 1 } b S h
  | ask k ih => intro Q E p s b S h; exact ih _ Q E p s b S h
  | choose src m k ih => intro Q E p s b S h; exact ⟨h.1, ih _ Q E p { s with drawn := s.drawn.bump src } b S h.2⟩
  | os q _ k ih => intro Q E p s b S h; exact ih _ Q E p { s with os := (Os.step s.os q).1 } b S h
  | call c hd _ _ k ih =>
    intro Q E p s b S h
    obtain ⟨r, s', hr, h⟩ := h
    obtain ⟨_, b', S', r'⟩ := runs_sim hr rfl b S
    exact ⟨r, wg s' b', r', ih r Q E p s' b' S' h⟩
  | handled own k ih => intro Q E p s b S h; exact ih _ Q E p s b S h
  | genState g k ih =>
    intro Q E p s b S h
    obtain ⟨st, hs, h⟩ := h
    have r := ih _ Q E p s b S h
    cases q : g0[g]? with
    | none => exact ⟨st, (S.other g fun x ex => by rw [q] at ex; cases ex).symm.trans hs, r⟩
    | some x =>
      cases z : asleep x with
      | false => exact ⟨st, (S.other g fun y ey => by rw [q] at ey; cases ey; exact z).symm.trans hs, r⟩
      | true =>
        obtain ⟨h1, h2⟩ := S.slept g x q z
        rw [hs] at h1
        have e1 : st = poison x := Option.some.inj h1
        refine ⟨x, h2, ?_⟩
        rw [← poison_seen x, ← e1]
        exact r
  | newGen c k ih =>
    intro Q E p s b S h
    have h' : wp M Γ (k s.gens.size) Q E p { s with gens := s.gens.push (.fresh c) } := h
    have r := ih s.gens.size Q E p { s with gens := s.gens.push (.fresh c) } (b.push (.fresh c)) (S.push True.intro) h'
    show wp M Γ (k b.size) _ _ p _
    rw [← S.size]
    exact r
  | resume g r _ k ih =>
    intro Q E p s b S h
    obtain ⟨res, s', hw, h⟩ := h
    obtain ⟨b', S', w'⟩ := wakes_sim hw b S
    exact ⟨res, wg s' b', w', ih res Q E p s' b' S' h⟩
  | yield _ _ _ _ => intro Q E p s b S h; exact h
  | stack k ih => intro Q E p s b S h; exact ih _ Q E p s b S h
  | fork _ _ => intro Q E p s b S h; exact h
  | thread k ih => intro Q E p s b S h; exact ih _ Q E p s b S h
  | await _ _ _ _ _ => intro Q E p s b S h; exact h

/-- beside sleepers: run with the sleepers unwakeable; as they are they sleep on -/
theorem wpAny_beside {α : Type} {M : Model} {A : Around} {t : Sem α} {Q : α → Shared → Prop} {E : Value → Shared → Prop} {s : Shared} (h : wpAny M A t Q E (wg s (s.gens.map poison))) :
    wpAny M A t (fun a s' => ∃ g', Sim s.gens g' s'.gens ∧ Q a (wg s' g')) (fun e s' => ∃ g', Sim s.gens g' s'.gens ∧ E e (wg s' g')) s := fun Γ p hΓ =>
  wp_sim M Γ s.gens t _ _ p (wg s (s.gens.map poison)) s.gens Sim.start (h Γ p hΓ)

theorem bare_poisoned {g : Array GenState} (h : AllBare g) : AllBare (g.map poison) := fun y hy => by
  obtain ⟨x, hx, e⟩ := Array.mem_map.mp hy
  rw [← e, poison_bare]
  exact h x hx
theorem Sim.bare {g0 a b : Array GenState} (S : Sim g0 a b) (h0 : AllBare g0) (ha : AllBare a) : AllBare b := fun y hy => by
  obtain ⟨i, hi, e⟩ := Array.mem_iff_getElem.mp hy
  have eb : b[i]? = some y := by rw [Array.getElem?_eq_getElem hi, e]
  cases q : g0[i]? with
  | none =>
    have ea := (S.other i fun x ex => by rw [q] at ex; cases ex).trans eb
    exact ha y (Array.mem_of_getElem? ea)
  | some x =>
    cases z : asleep x with
    | false =>
      have ea := (S.other i fun x' ex => by rw [q] at ex; cases ex; exact z).trans eb
      exact ha y (Array.mem_of_getElem? ea)
    | true =>
      obtain ⟨_, h2⟩ := S.slept i x q z
      rw [eb] at h2
      rw [Option.some.inj h2]
      exact h0 x (Array.mem_of_getElem? q)
end GF

/-! One stretch of a generator's code: to its next yield, or to its end. -/
namespace GF
open PySem PyProof.Rows
open Sem (wp)

def Seg1 (M : Model) (A : Around) (Φ : End → Shared → Prop) (c : Code) (t : Sem PySem.Fin) (fs : List Frame) (s : Shared) : Prop :=
  ∀ Γ p, Γ.code = c → Γ.Woken A → ∃ e s', Runs M Γ p t fs s e s' ∧ Φ e s'

section
variable {M : Model} {A : Around} {Φ : End → Shared → Prop} {c : Code} {fs : List Frame} {s : Shared}
theorem s1_wrap {α : Type} {m : Sem α} {K : α → Sem PySem.Fin} {H : Value → Sem PySem.Fin} {gd : Bool → Bool} {lv : List Value → List Value}
    (h : wpAny M (A.over c fs) m (fun a s' => Seg1 M A Φ c (K a) fs s') (fun x s' => Seg1 M A Φ c (H x) fs s') s) : Seg1 M A Φ c (m.wrap K H gd lv) fs s := by
  intro Γ p hc hΓ
  subst hc
  exact runs_wrap_of_wp K H gd lv m (h (Γ.over fs) p (hΓ.over fs)) (fun a q u z => z Γ q rfl hΓ) (fun x q u z => z Γ q rfl hΓ)
theorem s1_bind {α : Type} {m : Sem α} {K : α → Sem PySem.Fin}
    (h : wpAny M (A.over c fs) m (fun a s' => Seg1 M A Φ c (K a) fs s') (fun _ _ => False) s) : Seg1 M A Φ c (m >>= K) fs s := by
  rw [Sem.bind_eq_wrap']
  exact s1_wrap (wpAny_mono h (fun _ _ z => z) fun _ _ z => z.elim)
theorem s1_bindw {α β : Type} {m : Sem α} {f : α → Sem β} {K : β → Sem PySem.Fin} {H : Value → Sem PySem.Fin} {gd : Bool → Bool} {lv : List Value → List Value}
    (h : wpAny M (A.over c fs) m (fun a s' => Seg1 M A Φ c ((f a).wrap K H gd lv) fs s') (fun _ _ => False) s) : Seg1 M A Φ c ((m >>= f).wrap K H gd lv) fs s := by
  rw [Sem.bind_eq_wrap', Sem.wrap_wrap]
  exact s1_wrap (wpAny_mono h (fun _ _ z => z) fun _ _ z => z.elim)
theorem s1_at {q : Pos} {k : Unit → Sem PySem.Fin} (h : Seg1 M A Φ c (k ()) fs s) : Seg1 M A Φ c (.at q k) fs s :=
  s1_wrap (m := standAt q) (K := k) (H := .raise) (gd := id) (lv := id) (wpAny_standAt h)
theorem s1_point {l : List Value} {k : Unit → Sem PySem.Fin} (h : Seg1 M A Φ c (k ()) fs s) : Seg1 M A Φ c (.point l k) fs s :=
  s1_wrap (m := point) (K := k) (H := .raise) (gd := id) (lv := fun _ => l) (wpAny_point h)
theorem s1_call {d : Code} {h g l} {k : Result → Sem PySem.Fin} (hc : ∀ p, Seg1 M A Φ d (M.den d) (.ret k h g l c p [] :: fs) s) : Seg1 M A Φ c (.call d h g l k) fs s := by
  intro Γ p e hΓ
  subst e
  obtain ⟨e, s', r, q⟩ := hc p (Γ.goto d) p rfl (hΓ.goto d)
  exact ⟨e, s', runs_call_seg r, q⟩
theorem s1_leaf {k h g l c₁ p₁ kp} (r : Result) (hk : Seg1 M A Φ c₁ (k r) fs s) : Seg1 M A Φ c (leafOf r) (.ret k h g l c₁ p₁ kp :: fs) s := by
  intro Γ p e hΓ
  subst e
  obtain ⟨e, s', r', q⟩ := hk (Γ.goto c₁) p₁ rfl (hΓ.goto c₁)
  exact ⟨e, s', Runs.pop r r', q⟩
theorem s1_again {d : Code} (hq : d.quiet = true) (hc : Seg1 M A Φ d (M.den d) fs s) : Seg1 M A Φ c (.pure (.again d)) fs s := by
  intro Γ p e hΓ
  subst e
  obtain ⟨e, s', r, q⟩ := hc (Γ.goto d) p rfl (hΓ.goto d)
  exact ⟨e, s', Runs.head (c₁ := d) (fun _ _ x => .again hq x) r, q⟩
theorem s1_end (r : Result) (h : Φ (.ret r) s) : Seg1 M A Φ c (leafOf r) [] s := fun Γ p e _ => ⟨.ret r, s, Runs.leaf r, h⟩
theorem s1_susp {v g l} {k : Resume → Sem PySem.Fin} (hf : splitAtGen fs = none) (h : ∀ p, Φ (.susp v g l k c p fs) s) : Seg1 M A Φ c (.yield v g l k) fs s := by
  intro Γ p e _
  subst e
  exact ⟨_, s, Runs.yield' fs hf, h p⟩

variable {env : Env} {K : Flow → Sem PySem.Fin} {H : Value → Sem PySem.Fin} {gd : Bool → Bool} {lv : List Value → List Value}
theorem s1_nil (h : Seg1 M A Φ c (K .next) fs s) : Seg1 M A Φ c ((execs [] env).wrap K H gd lv) fs s := h
theorem s1_cons {st : Stmt} {rest : List Stmt} (h : Seg1 M A Φ c ((exec st env).wrap (fun f => match f with | .next => (execs rest env).wrap K H gd lv | f => K f) H gd lv) fs s) :
    Seg1 M A Φ c ((execs (st :: rest) env).wrap K H gd lv) fs s := by
  rw [execs_cons_wrap]
  exact h
/-- yield e -/
theorem s1_yield {e : Expr} {yp pos : Pos} (hf : splitAtGen fs = none) (hgd : gd false = false)
    (h : wpAny M (A.over c fs) (eval e env) (fun v s' => ∀ (l : List Value) (k : Resume → Sem PySem.Fin) (p : Pos), k (.send .none) = K .next → Φ (.susp v false l k c p fs) s') (fun _ _ => False) s)
    (hco : env.scope.isCoroutine = false := by rfl) (hi : interactive env = false := by rfl) : Seg1 M A Φ c ((exec (.Expr (.Yield (some e) yp) pos) env).wrap K H gd lv) fs s := by
  rw [exec_Expr env _ pos hi rfl]
  have ho : ∀ v, yieldOut env v = yieldValue v := fun v => by
    unfold yieldOut
    rw [hco]
    rfl
  show Seg1 M A Φ c (.at pos fun _ => (((eval e env >>= fun v => (standAt yp >>= fun _ => yieldOut env v)) >>= fun x => dropValue (.Yield (some e) yp) pos x).wrap K H gd lv)) fs s
  refine s1_at ?_
  rw [bind_assoc]
  refine s1_bindw (wpAny_mono h (fun v s' z => ?_) fun _ _ z => z)
  rw [ho v]
  refine s1_at ?_
  show Seg1 M A Φ c (.yield v (gd false) _ _) fs s'
  rw [hgd]
  exact s1_susp hf fun p => z _ _ p rfl
/-- what a call of a loop's code does with an exception that comes back -/
def cb (env : Env) (x : Value) : Sem Unit := do
  if (← field x 1) == Value.none then unsupported "frame.own-activation:exception-without-traceback"
  setFlight x env.frame
/-- what follows a loop's code -/
def kf (env : Env) (K : Flow → Sem PySem.Fin) (H : Value → Sem PySem.Fin) (gd : Bool → Bool) (lv : List Value → List Value) (r : Result) : Sem PySem.Fin :=
  ((match r with | .ok f => (.pure f : Sem Flow) | .error e => .raise e).onRaise (cb env)).wrap K H gd lv
theorem s1_For {tg iter : Expr} {body orelse : List Stmt} {pos : Pos}
    (h : wpAny M (A.over c fs) (eval iter env) (fun v s1 => wpAny M (A.over c fs) (pyIter v) (fun it s2 => ∀ p,
      Seg1 M A Φ (.forLoop tg it body orelse env) (M.den (.forLoop tg it body orelse env)) (.ret (kf env K H gd lv) none (gd false) (lv []) c p [] :: fs) s2) (fun _ _ => False) s1) (fun _ _ => False) s)
    (hs : ∀ x, foldedSetIterable iter env x = pure x := by intro _; rfl) : Seg1 M A Φ c ((exec (.For tg iter body orelse pos) env).wrap K H gd lv) fs s := by
  rw [exec_For]
  refine s1_bindw (wpAny_standAt ?_)
  refine s1_bindw (wpAny_mono h (fun v s1 h1 => ?_) fun _ _ z => z)
  rw [hs v]
  refine s1_bindw (wpAny_pure ?_)
  refine s1_bindw (wpAny_standAt ?_)
  refine s1_bindw (wpAny_holding (wpAny_mono h1 (fun it s2 h2 => ?_) fun _ _ z => z))
  exact s1_call h2
end

section
variable {prog : Program} {w : World} {A : Around} {Φ : End → Shared → Prop} {fs : List Frame} {s : Shared} {env : Env}
def kl (cf : Code) : Flow → Sem PySem.Fin
  | .next => .pure (.again cf)
  | .cont => .pure (.again cf)
  | .brk => .pure (.done .next)
  | .ret v => .pure (.done (.ret v))
theorem s1_forLoop {tg : Expr} {it : Value} {body orelse : List Stmt}
    (h : wpAny (model prog w) (A.over (.forLoop tg it body orelse env) fs) (pyNext it) (fun r s1 => match r with
      | none => Seg1 (model prog w) A Φ (.forLoop tg it body orelse env) (.pure (.again (.block orelse env))) fs s1
      | some v => wpAny (model prog w) (A.over (.forLoop tg it body orelse env) fs) (letOwnedTupleGo tg it v) (fun _ s2 => wpAny (model prog w) (A.over (.forLoop tg it body orelse env) fs) (assign tg env v) (fun _ s3 =>
          ∀ J, Seg1 (model prog w) A Φ (.forLoop tg it body orelse env) ((execs body env).wrap (kl (.forLoop tg it body orelse env)) J id id) fs s3) (fun _ _ => False) s2) (fun _ _ => False) s1) (fun _ _ => False) s) :
    Seg1 (model prog w) A Φ (.forLoop tg it body orelse env) ((model prog w).den (.forLoop tg it body orelse env)) fs s := by
  show Seg1 _ A Φ _ ((forTurn tg it body orelse env).onRaise fun x => do noteFrame x env; theTreesLotGoes x) fs s
  unfold forTurn
  rw [Sem.onRaise_eq_wrap]
  refine s1_bindw (wpAny_standAt ?_)
  refine s1_bindw (wpAny_onRaise (wpAny_mono h (fun r s1 h1 => ?_) fun _ _ z => z.elim))
  cases r with
  | none => exact h1
  | some v =>
    refine s1_bindw (wpAny_mono h1 (fun _ s2 h2 => ?_) fun _ _ z => z)
    refine s1_bindw (wpAny_mono h2 (fun _ s3 h3 => ?_) fun _ _ z => z)
    rw [Sem.bind_eq_wrap', Sem.wrap_wrap]
    refine Eq.mp (congrArg (fun t => Seg1 (model prog w) A Φ (.forLoop tg it body orelse env) t fs s3) ?_) (h3 fun e => (do noteFrame e env; theTreesLotGoes e : Sem Unit).bind fun _ => .raise e)
    exact Sem.wrap_congr _ _ _ (fun f => by cases f <;> rfl) fun _ => rfl
theorem s1_func {body : List Stmt} (h : ∀ J, Seg1 (model prog w) A Φ (.func body env) ((execs body env).wrap (fun f => .pure (.done (.ret (match f with | .ret v => v | _ => .none)))) J id id) fs s) :
    Seg1 (model prog w) A Φ (.func body env) ((model prog w).den (.func body env)) fs s := by
  show Seg1 _ A Φ _ (.point [] fun _ => ((execs body env).onRaise (leaving env)) >>= _) fs s
  refine s1_point ?_
  rw [Sem.onRaise_eq_wrap, Sem.bind_eq_wrap', Sem.wrap_wrap]
  refine Eq.mp (congrArg (fun t => Seg1 (model prog w) A Φ (.func body env) t fs s) ?_) (h fun e => Sem.wrap (fun d => match d with | Flow.ret v => ret v | _ => ret .none) .raise id id ((leaving env e).bind fun _ => (.raise e : Sem Flow)))
  exact Sem.wrap_congr _ _ _ (fun f => by cases f <;> rfl) fun _ => rfl
end
end GF

/-! A generator's code in contexts that are laid anew at each waking. -/
namespace GF
open PySem PySem.Spec PyProof.Rows L2 GenW

/-- the objects below n -/
def trunc (h : Heap) (n : Nat) : Heap := ⟨h.objs.extract 0 n, h.life⟩
theorem trunc_lt {h : Heap} {n b : Nat} (hb : b < n) : (trunc h n).get? b = h.get? b := by
  have e : (h.objs.extract 0 n)[b]? = h.objs[b]? := by
    rw [Array.getElem?_extract]
    by_cases hz : b < h.objs.size
    · rw [if_pos (by omega)]; simp
    · rw [if_neg (by omega)]
      exact (Array.getElem?_eq_none (by omega)).symm
  unfold trunc Heap.get?
  dsimp only
  rw [e]
theorem trunc_of {h : Heap} {n b : Nat} {o : Obj} (e : (trunc h n).get? b = some o) : b < n ∧ h.get? b = some o := by
  have hb : b < n := by
    have q := Heap.lt_size e
    have z : (trunc h n).objs.size ≤ n := by
      show (h.objs.extract 0 n).size ≤ n
      simp; omega
    exact Nat.lt_of_lt_of_le q z
  exact ⟨hb, by rw [← trunc_lt hb]; exact e⟩
theorem trunc_size {h : Heap} {n : Nat} (hn : n ≤ h.objs.size) : (trunc h n).objs.size = n := by
  show (h.objs.extract 0 n).size = n
  simp; omega
/-- where a generator's code runs: its frame, the around in which it is woken, the frames around it -/
structure GE where
  P : Program
  w : World
  K : PySem.W.Frag
  mg : Str → Option Value
  base : Heap
  N : List Str
  env : Env
  Aw : Around
  outer : List Env
  own : List (Addr × Obj)
abbrev GE.gl (G : GE) : Addr := G.env.locals
structure GSt (G : GE) : Prop where
  mod : Mod G.K G.mg G.base
  kind : G.env.scope.kind = .function
  glob : G.env.globals = mainGlobals
  blt : G.env.builtins = builtinsNs
  cells : G.env.cells = []
  nocell : ∀ x, G.env.kindOf x ≠ some .cell ∧ G.env.kindOf x ≠ some .free
  frame : G.env.frame = some G.env.locals
  bsz : G.base.objs.size ≤ G.env.locals
  out : ∀ b ∈ frs G.outer, b < G.env.locals
  hd : G.Aw.handled = none
  frames : G.Aw.frames = some G.outer
  own : ∀ p ∈ G.own, p.1 ≠ G.gl ∧ p.1 ∉ frs G.outer ∧ ∀ v, p.2.data ≠ .cell v
/-- the context of a stretch: woken at sr, the abstract heap Hr -/
def gx (G : GE) (sr : Shared) (Hr : Hp) : Cx where
  prog := G.P
  w := G.w
  K := G.K
  mg := G.mg
  base := G.base
  A := G.Aw.deeper G.env
  N := G.N
  s_0 := { sr with heap := trunc sr.heap G.env.locals }
  H_0 := Hr
  env := G.env
  outer := G.outer
  stack := G.env :: G.outer
  ex := []
  calm := true
  fn := fun _ => true
  pn := G.own
  xe := fun _ _ => False
theorem funs_trunc {h base : Heap} {n : Nat} : ∀ {l : List Env}, (∀ b ∈ frs l, b < n) → h.FunFrames base l → (trunc h n).FunFrames base l
  | [], _, _ => trivial
  | env :: r, hb, ⟨hk, ⟨L, o, hf, hn, ho, hd⟩, hr⟩ => by
    have e : frs (env :: r) = L :: frs r := by
      unfold frs
      rw [List.filterMap_cons, hf]
    rw [e] at hb
    exact ⟨hk, ⟨L, o, hf, hn, by rw [trunc_lt (hb L List.mem_cons_self)]; exact ho, hd⟩, funs_trunc (fun b z => hb b (List.mem_cons_of_mem _ z)) hr⟩
section
variable {G : GE} {sr : Shared} {Hr : Hp}
theorem gx_ok (S : GSt G) (e0 : Env0 G.P G.w G.K G.mg G.base G.Aw G.outer sr Hr) (hg : G.gl < sr.heap.objs.size) : (gx G sr Hr).Ok where
  mod := S.mod
  kind := S.kind
  glob := S.glob
  blt := S.blt
  above := Nat.le_of_eq (trunc_size (Nat.le_of_lt hg))
  inj := fun x y c h _ => by
    have h1 : G.env.cells.lookup x = some c := h
    rw [S.cells] at h1
    cases h1
  has := fun x h => h.elim (fun z => absurd z (S.nocell x).1) fun z => absurd z (S.nocell x).2
  cab := fun x c _ h => by
    have h1 : G.env.cells.lookup x = some c := h
    rw [S.cells] at h1
    cases h1
  hd := fun _ => S.hd
  frames := Around.frames_deeper S.frames
  stk := .inr ⟨rfl, S.frame⟩
  exf := fun b z => nomatch z
  bs := fun b o e => by
    obtain ⟨h1, h2⟩ := e0.bs b o e
    refine ⟨?_, h2⟩
    show (trunc sr.heap G.gl).get? b = some o
    rw [trunc_lt (Nat.lt_of_lt_of_le (Heap.lt_size e) S.bsz)]
    exact h1
  bsz := by
    show _ ≤ (trunc sr.heap G.gl).objs.size
    rw [trunc_size (Nat.le_of_lt hg)]
    exact S.bsz
  noex := fun _ _ _ z => nomatch z
  exfs := fun _ z => nomatch z
  funs := funs_trunc S.out e0.funs
  frf := e0.frf
/-- what the frame's object tells of the slots -/
def LocO (G : GE) (σ : L2.St) (og : Obj) : Prop := ∀ h : Heap, h.get? G.gl = some og → ∃ m, h.Ns G.gl m ∧
  ∀ (i : Nat) (x : Str) (v : V), G.N[i]? = some x → σ[i]? = some (some v) → Vis G.env.scope x → ∃ u, RelV v u ∧ G.env.kindOf x = some .local ∧ m x = some u
/-- a generator that sleeps: its slots, its frame's object, its own records -/
structure Slp (G : GE) (ip : List (Addr × Obj)) (σ : L2.St) (og : Obj) : Prop where
  loc : LocO G σ og
  len : σ.length = G.N.length
  pins : ∀ p ∈ ip, p.1 ≠ G.gl ∧ p.1 ∉ frs G.outer ∧ ∀ v, p.2.data ≠ .cell v
/-- .. and nobody has touched it: it may be woken -/
structure Wake (G : GE) (ip : List (Addr × Obj)) (og : Obj) (s : Shared) (H : Hp) : Prop where
  e0 : Env0 G.P G.w G.K G.mg G.base G.Aw G.outer s H
  fr : s.heap.get? G.gl = some og ∧ H G.gl = none
  pins : ∀ p ∈ ip, s.heap.get? p.1 = some p.2 ∧ H p.1 = none
  own : ∀ p ∈ G.own, s.heap.get? p.1 = some p.2 ∧ H p.1 = none
theorem gx_inv {ip : List (Addr × Obj)} {σ : L2.St} {og : Obj} (S : GSt G) (z : Slp G ip σ og) (k : Wake G ip og sr Hr) : Inv (gx G sr Hr) ip σ Hr sr where
  ok := gx_ok S k.e0 (Heap.lt_size k.fr.1)
  os := rfl
  bare := k.e0.bare
  base := Un.kept fun b o e => (trunc_of e).2
  loc := by
    obtain ⟨m, hn, h⟩ := z.loc sr.heap k.fr.1
    refine ⟨m, hn, fun i x v h1 h2 h3 => ?_⟩
    obtain ⟨u, r, q1, q2⟩ := h i x v h1 h2 h3
    exact ⟨u, r, .inl ⟨q1, q2⟩⟩
  cell := fun x c h => by
    have h1 : G.env.cells.lookup x = some c := h
    rw [S.cells] at h1
    cases h1
  free := k.fr.2
  freeC := fun x c h => by
    have h1 : G.env.cells.lookup x = some c := h
    rw [S.cells] at h1
    cases h1
  pin := fun p hp => by
    rcases List.mem_append.mp hp with hp | hp
    · exact ⟨(k.own p hp).1, (k.own p hp).2, S.own p hp⟩
    · exact ⟨(k.pins p hp).1, (k.pins p hp).2, z.pins p hp⟩
  hok := k.e0.hok
  len := z.len
/-- what a stretch leaves to who woke it -/
structure Out (G : GE) (sr : Shared) (Hr : Hp) (s : Shared) (H : Hp) : Prop where
  os : s.os = sr.os
  bare : AllBare s.gens
  un : Un (frs G.outer) [] Hr H (trunc sr.heap G.gl) s.heap
  hok : HOk G.P G.w H s.heap
theorem gx_out {ip : List (Addr × Obj)} {σ : L2.St} {s : Shared} {H : Hp} (S : GSt G) (I : Inv (gx G sr Hr) ip σ H s) :
    Out G sr Hr s H ∧ ∃ og, Slp G ip σ og ∧ s.heap.get? G.gl = some og ∧ H G.gl = none ∧ (∀ p ∈ ip, s.heap.get? p.1 = some p.2 ∧ H p.1 = none) ∧ ∀ p ∈ G.own, s.heap.get? p.1 = some p.2 ∧ H p.1 = none := by
  refine ⟨⟨I.os, I.bare, I.base, I.hok⟩, ?_⟩
  obtain ⟨m, hn, hl⟩ := id I.loc
  obtain ⟨o, es, ep, ho, r1, r2, r3⟩ := id hn
  have hp : ∀ p ∈ ip, p ∈ (gx G sr Hr).pn ++ ip := fun p z => List.mem_append_right _ z
  refine ⟨o, ⟨fun h e => ⟨m, ⟨o, es, ep, e, r1, r2, r3⟩, fun i x v h1 h2 h3 => ?_⟩, I.len, fun p z => ⟨(I.pin p (hp p z)).2.2.1, (I.pin p (hp p z)).2.2.2.1, (I.pin p (hp p z)).2.2.2.2⟩⟩,
    ho, I.free, fun p z => ⟨(I.pin p (hp p z)).1, (I.pin p (hp p z)).2.1⟩, fun p z => ⟨(I.pin p (List.mem_append_left _ z)).1, (I.pin p (List.mem_append_left _ z)).2.1⟩⟩
  obtain ⟨u, r, l⟩ := hl i x v h1 h2 h3
  rcases l with l | ⟨z, _⟩
  · exact ⟨u, r, l.1, l.2⟩
  · exact z.elim (fun z => absurd z (S.nocell x).1) fun z => absurd z (S.nocell x).2
end

/-! ### what is wanted -/
/-- Hr: the abstract heap at the last waking; the list: what is out so far -/
structure GD where
  nx : Hp → List V → L2.St → Hp → Prop
  bk : Hp → List V → L2.St → Hp → Prop := fun _ _ _ _ => False
  ct : Hp → List V → L2.St → Hp → Prop := fun _ _ _ _ => False
/-- a stretch's end: at most n items more; Gd: what who wakes it keeps true of the heap; yl: what is told of an item; fin: of the end -/
def Ph (G : GE) (Gd : Hp → Prop) (yl : Hp → List V → V → Hp → Prop) (fin : Hp → List V → Hp → Prop) : Nat → Shared → Hp → List V → End → Shared → Prop
  | n, sr, Hr, ys, .ret r, s => r = .ok (.ret .none) ∧ ∃ H, Out G sr Hr s H ∧ fin Hr ys H
  | 0, sr, Hr, ys, .susp _ _ _ _ _ _ _, s => False
  | n + 1, sr, Hr, ys, .susp v g l k c p fs, s => (End.susp v g l k c p fs).quiet = true ∧ ∃ x H ip σ og, RelV x v ∧ Out G sr Hr s H ∧ yl Hr ys x H ∧ Slp G ip σ og ∧ s.heap.get? G.gl = some og ∧ H G.gl = none ∧
      (∀ q ∈ ip, s.heap.get? q.1 = some q.2 ∧ H q.1 = none) ∧ (∀ q ∈ G.own, s.heap.get? q.1 = some q.2 ∧ H q.1 = none) ∧ (∀ q ∈ ip, G.gl ≤ q.1) ∧ ∀ s2 H2, Wake G ip og s2 H2 → Gd H2 → Seg1 (model G.P G.w) G.Aw (Ph G Gd yl fin n s2 H2 (ys ++ [x])) c (k (.send .none)) fs s2
/-- where the code stands -/
structure At (G : GE) (c : Code) (fs : List Frame) (gd : Bool → Bool) : Prop where
  over : G.Aw.over c fs = G.Aw.deeper G.env
  split : splitAtGen fs = none
  guard : fs.any Frame.guarded = false
  gd : gd false = false
def GP (G : GE) (ip : List (Addr × Obj)) (D : GD) (sr : Shared) (Hr : Hp) (ys : List V) (f : Flow) (s : Shared) : Prop :=
  match f with
  | .next => ∃ σ H, Inv (gx G sr Hr) ip σ H s ∧ D.nx Hr ys σ H
  | .brk => ∃ σ H, Inv (gx G sr Hr) ip σ H s ∧ D.bk Hr ys σ H
  | .cont => ∃ σ H, Inv (gx G sr Hr) ip σ H s ∧ D.ct Hr ys σ H
  | .ret _ => False
/-- a reading: what is told of items and of what the waker keeps stands in yl, Gd -/
abbrev TY := GD → Hp → List V → Nat → L2.St → Hp → Prop
/-- the whole wish of a generator -/
structure GW where
  Gd : Hp → Prop
  yl : Hp → List V → V → Hp → Prop
  fin : Hp → List V → Hp → Prop
abbrev GW.ph (U : GW) (G : GE) : Nat → Shared → Hp → List V → End → Shared → Prop := Ph G U.Gd U.yl U.fin
def Go (G : GE) (U : GW) (b : Nat) (c : Code) (fs : List Frame) (ip : List (Addr × Obj)) (D : GD) (Kf : Flow → Sem PySem.Fin) : Prop :=
  ∀ (n : Nat) (ys : List V) (sr : Shared) (Hr : Hp) (s : Shared) (f : Flow), n + ys.length = b → G.gl < sr.heap.objs.size → GP G ip D sr Hr ys f s → Seg1 (model G.P G.w) G.Aw (U.ph G n sr Hr ys) c (Kf f) fs s
structure GS1 (G : GE) (st : Stmt) (t : GW → TY) : Prop where
  run : ∀ (U : GW) (b n : Nat) (ys : List V) (sr : Shared) (Hr : Hp) (c : Code) (fs : List Frame) (Kf : Flow → Sem PySem.Fin) (J : Value → Sem PySem.Fin) (gd : Bool → Bool) (lv : List Value → List Value) (ip : List (Addr × Obj)) (s : Shared) (σ : L2.St) (H : Hp) (D : GD),
    At G c fs gd → n + ys.length = b → G.gl < sr.heap.objs.size → (∀ q ∈ ip, G.gl ≤ q.1) → Go G U b c fs ip D Kf → Inv (gx G sr Hr) ip σ H s → t U D Hr ys b σ H → Seg1 (model G.P G.w) G.Aw (U.ph G n sr Hr ys) c ((exec st G.env).wrap Kf J gd lv) fs s
structure GSs1 (G : GE) (st : List Stmt) (t : GW → TY) : Prop where
  run : ∀ (U : GW) (b n : Nat) (ys : List V) (sr : Shared) (Hr : Hp) (c : Code) (fs : List Frame) (Kf : Flow → Sem PySem.Fin) (J : Value → Sem PySem.Fin) (gd : Bool → Bool) (lv : List Value → List Value) (ip : List (Addr × Obj)) (s : Shared) (σ : L2.St) (H : Hp) (D : GD),
    At G c fs gd → n + ys.length = b → G.gl < sr.heap.objs.size → (∀ q ∈ ip, G.gl ≤ q.1) → Go G U b c fs ip D Kf → Inv (gx G sr Hr) ip σ H s → t U D Hr ys b σ H → Seg1 (model G.P G.w) G.Aw (U.ph G n sr Hr ys) c ((execs st G.env).wrap Kf J gd lv) fs s

section
variable {G : GE} {st : Stmt} {rest : List Stmt}
def GD.at (D : GD) (Hr : Hp) (ys : List V) : Ends := { nx := D.nx Hr ys, rt := fun _ _ => False, bk := D.bk Hr ys, ct := D.ct Hr ys }
/-- a statement that hands out nothing -/
def tPl (t : TS) : GW → TY := fun _ D Hr ys _ σ H => t (D.at Hr ys) σ H
theorem g1_plain {t : TS} (h : ∀ sr Hr, PS (gx G sr Hr) st t) : GS1 G st (tPl t) := by
  refine ⟨fun U b n ys sr Hr c fs Kf J gd lv ip s σ H D a hn hz hge k I ht => ?_⟩
  refine s1_wrap ?_
  rw [a.over]
  refine wpAny_mono ((h sr Hr).run _ s σ H (D.at Hr ys) I ht) (fun f s' z => k n ys sr Hr s' f hn hz ?_) fun _ _ z => z.elim
  cases f with
  | next => exact z
  | brk => exact z
  | cont => exact z
  | ret u =>
    obtain ⟨_, _, _, _, _, q⟩ := z
    exact q
def tN1 : GW → TY := fun _ D Hr ys _ σ H => D.nx Hr ys σ H
theorem g1_nil : GSs1 G [] tN1 := ⟨fun U b n ys sr Hr c fs Kf J gd lv ip s σ H D a hn hz hge k I ht => s1_nil (k n ys sr Hr s .next hn hz ⟨σ, H, I, ht⟩)⟩
def tSq (t u : GW → TY) : GW → TY := fun U D Hr ys b σ H => t U { D with nx := fun Hr' ys' σ' H' => u U D Hr' ys' b σ' H' } Hr ys b σ H
theorem g1_cons {t u : GW → TY} (x : GS1 G st t) (y : GSs1 G rest u) : GSs1 G (st :: rest) (tSq t u) := by
  refine ⟨fun U b n ys sr Hr c fs Kf J gd lv ip s σ H D a hn hz hge k I ht => s1_cons ?_⟩
  refine x.run U b n ys sr Hr c fs _ J gd lv ip s σ H _ a hn hz hge (fun n' ys' sr' Hr' s' f hn' hz' z => ?_) I ht
  cases f with
  | next =>
    obtain ⟨σ', H', I', q⟩ := z
    exact y.run U b n' ys' sr' Hr' c fs Kf J gd lv ip s' σ' H' D a hn' hz' hge k I' q
  | brk => exact k n' ys' sr' Hr' s' .brk hn' hz' z
  | cont => exact k n' ys' sr' Hr' s' .cont hn' hz' z
  | ret u => exact z.elim
/-- yield e -/
def tYd (te : TE) : GW → TY := fun U D Hr ys b σ H => ys.length < b ∧ te σ H fun x H1 => U.yl Hr ys x H1 ∧ ∀ H2, U.Gd H2 → D.nx H2 (ys ++ [x]) σ H2
theorem g1_yield {e : Expr} {yp pos : Pos} {te : TE} (S : GSt G) (he : ∀ sr Hr, PE (gx G sr Hr) e te) (hco : G.env.scope.isCoroutine = false := by rfl) (hi : interactive G.env = false := by rfl) : GS1 G (.Expr (.Yield (some e) yp) pos) (tYd te) := by
  refine ⟨fun U b n ys sr Hr c fs Kf J gd lv ip s σ H D a hn hz hge k I ht => ?_⟩
  obtain ⟨hlt, ht⟩ := ht
  obtain ⟨n, rfl⟩ : ∃ m, n = m + 1 := ⟨n - 1, by omega⟩
  refine s1_yield a.split a.gd ?_ hco hi
  rw [a.over]
  refine wpAny_mono ((he sr Hr).run _ s σ H _ I ht) (fun v s' z l kk p hk => ?_) fun _ _ z => z
  obtain ⟨x, H1, I1, rv, hy, q⟩ := z
  obtain ⟨ho, og, hs, hog, hgn, hpi, how⟩ := gx_out S I1
  refine ⟨?_, x, H1, ip, σ, og, rv, ho, hy, hs, hog, hgn, hpi, how, hge, fun s2 H2 wk hg => ?_⟩
  · show (!(false || fs.any Frame.guarded)) = true
    rw [a.guard]
    rfl
  · rw [hk]
    refine k n (ys ++ [x]) s2 H2 s2 .next ?_ (Heap.lt_size wk.fr.1) ⟨σ, H2, gx_inv S hs wk, q H2 hg⟩
    rw [List.length_append, List.length_singleton]
    omega
/-- for target in iter: body -/
def tFr (wi : TI) (g : L2.TG) (tb : GW → TY) : GW → TY := fun U D Hr ys b σ H => wi σ H fun I H1 => ∃ W : Nat → Nat → Hp → List V → L2.St → Hp → Prop, (∃ m, W 0 m Hr ys σ H1) ∧ ∀ i m Hr ys σ H, W i m Hr ys σ H →
  (I.stop i H ∧ D.nx Hr ys σ H) ∨ (I.go i H ∧ ∃ N : Hp → List V → L2.St → Hp → Prop, (∀ Hr' ys' σ' H', N Hr' ys' σ' H' → ∃ m', m' < m ∧ W (i + 1) m' Hr' ys' σ' H') ∧
    ∀ x H', I.yld i H x H' → g x σ H' fun σ2 H2 => tb U { nx := N, ct := N, bk := D.nx } Hr ys b σ2 H2)
theorem at_loop {c d : Code} {fs : List Frame} {gd : Bool → Bool} {k : Result → Sem PySem.Fin} {l kp : List Value} {p : Pos} (a : At G c fs gd) (hw : d.weight = 0) (hu : d.cUnits = 0) : At G d (.ret k none (gd false) l c p kp :: fs) id where
  over := (over_loop hw hu).trans a.over
  split := by rw [splitAtGen_ret, a.split]; rfl
  guard := by
    show (gd false || fs.any Frame.guarded) = false
    rw [a.gd, a.guard]; rfl
  gd := rfl
/-- the iterator's records stand well in every stretch's context -/
theorem fpOk_move {sr sr' : Shared} {Hr Hr' H H' : Hp} {ip : List (Addr × Obj)} {b : Addr} (h1 : G.gl < sr.heap.objs.size) (h2 : G.gl < sr'.heap.objs.size) (x : FpOk (gx G sr Hr) ip H b) (hn : H' b = none) : FpOk (gx G sr' Hr') ip H' b := by
  obtain ⟨_, x1, x2, x3, x4, x5⟩ := x
  refine ⟨hn, x1, x2, .inr ?_, x4, x5⟩
  rcases x3 with z | z
  · exact nomatch z
  · have z1 : (trunc sr.heap G.gl).objs.size ≤ b := z
    show (trunc sr'.heap G.gl).objs.size ≤ b
    rw [trunc_size (Nat.le_of_lt h1)] at z1
    rw [trunc_size (Nat.le_of_lt h2)]
    exact z1
theorem g1_for {tg iter : Expr} {body : List Stmt} {pos : Pos} {wi : TI} {g : L2.TG} {tb : GW → TY} (S : GSt G) (hi : ∀ sr Hr, PI (gx G sr Hr) tg iter wi) (hg : ∀ sr Hr, PG (gx G sr Hr) tg g) (hb : GSs1 G body tb)
    (hs : ∀ x, foldedSetIterable iter G.env x = pure x := by intro _; rfl) : GS1 G (.For tg iter body [] pos) (tFr wi g tb) := by
  refine ⟨fun U b n ys sr Hr c fs Kf J gd lv ip s σ H D a hn hz hge k I ht => ?_⟩
  refine s1_For ?_ hs
  rw [a.over]
  refine wpAny_mono ((hi sr Hr).run _ s σ H _ I ht) (fun v s1 h1 => wpAny_mono h1 (fun itv s2 h2 p => ?_) fun _ _ z => z) fun _ _ z => z
  obtain ⟨it, fp, tn, T0, H2, e, I2, T, st2, f2, W, ⟨m0, w0⟩, turn⟩ := h2
  subst e
  have al := fun (kk : Result → Sem PySem.Fin) => at_loop (k := kk) (d := .forLoop tg (.ref it) body [] G.env) (l := lv []) (kp := []) (p := p) a rfl rfl
  have loop : ∀ (m i n : Nat) (ys : List V) (sr' : Shared) (Hr' : Hp) (s : Shared) (σ : L2.St) (H : Hp), n + ys.length = b → G.gl < sr'.heap.objs.size → W i m Hr' ys σ H → Inv (gx G sr' Hr') ip σ H s → tn i s.heap → (∀ q ∈ fp, FpOk (gx G sr' Hr') ip H q) →
      Seg1 (model G.P G.w) G.Aw (U.ph G n sr' Hr' ys) (.forLoop tg (.ref it) body [] G.env) ((model G.P G.w).den (.forLoop tg (.ref it) body [] G.env)) (.ret (kf G.env Kf J gd lv) none (gd false) (lv []) c p [] :: fs) s := by
    intro m
    induction m using Nat.strongRecOn with
    | ind m ih =>
      intro i n ys sr' Hr' s σ H hn hz' w0 I st fo
      refine s1_forLoop ?_
      rw [(al _).over]
      rcases turn i m Hr' ys σ H w0 with ⟨stop, qn⟩ | ⟨go, N, hN, step⟩
      · refine wpAny_mono (T.done (gx G sr' Hr') rfl rfl rfl rfl i ip s σ H _ I fo st stop) (fun r s4 z => ?_) fun _ _ z => z
        obtain ⟨hr, I4⟩ := z
        subst hr
        refine s1_again rfl ?_
        show Seg1 _ _ _ _ (leafOf (.ok .next)) _ _
        refine s1_leaf _ ?_
        exact k n ys sr' Hr' s4 .next hn hz' ⟨σ, H, I4, qn⟩
      · refine wpAny_mono (T.item (gx G sr' Hr') rfl rfl rfl rfl i ip s σ H _ I fo st go) (fun r s4 z => ?_) fun _ _ z => z
        obtain ⟨u, hr, h4⟩ := z
        subst hr
        refine wpAny_mono h4 (fun _ s5 z => ?_) fun _ _ z => z
        obtain ⟨x, H5, I5, r5, y5, st5, fr5⟩ := z
        have fo5 : ∀ q ∈ fp, FpOk (gx G sr' Hr') ip H5 q := fun q hq => fpOk_move hz' hz' (fo q hq) (fr5 q hq)
        have J5 := I5.pinned fo5 (T.obj _ _ st5)
        refine wpAny_mono ((hg sr' Hr').run _ s5 σ H5 x u _ J5 r5 (step x H5 y5)) (fun _ s6 z JJ => ?_) fun _ _ z => z
        obtain ⟨σ6, H6, I6, q6⟩ := z
        have again : ∀ (n' : Nat) (ys' : List V) (sr2 : Shared) (Hr2 : Hp) (s7 : Shared) (σ7 : L2.St) (H7 : Hp), n' + ys'.length = b → G.gl < sr2.heap.objs.size → Inv (gx G sr2 Hr2) (ip ++ pinsAt fp s5.heap) σ7 H7 s7 → N Hr2 ys' σ7 H7 →
            Seg1 (model G.P G.w) G.Aw (U.ph G n' sr2 Hr2 ys') (.forLoop tg (.ref it) body [] G.env) (.pure (.again (.forLoop tg (.ref it) body [] G.env))) (.ret (kf G.env Kf J gd lv) none (gd false) (lv []) c p [] :: fs) s7 := by
          intro n' ys' sr2 Hr2 s7 σ7 H7 hn' hz2 I7 n7
          obtain ⟨m', hm, w7⟩ := hN Hr2 ys' σ7 H7 n7
          have pin7 : ∀ q ∈ fp, ∀ o, s5.heap.get? q = some o → s7.heap.get? q = some o ∧ H7 q = none := fun q hq o e => by
            have z := I7.pin (q, o) (List.mem_append_right _ (List.mem_append_right _ (mem_pinsAt hq e)))
            exact ⟨z.1, z.2.1⟩
          refine s1_again rfl (ih m' hm (i + 1) n' ys' sr2 Hr2 s7 σ7 H7 hn' hz2 w7 I7.unpinned (T.keep _ _ _ st5 fun q hq o e => (pin7 q hq o e).1) fun q hq => ?_)
          obtain ⟨o, e, _⟩ := T.obj _ _ st5 q hq
          exact fpOk_move hz' hz2 (fo5 q hq) (pin7 q hq o e).2
        have hge2 : ∀ q ∈ ip ++ pinsAt fp s5.heap, G.gl ≤ q.1 := fun q hq => by
          rcases List.mem_append.mp hq with hq | hq
          · exact hge q hq
          · obtain ⟨q1, _⟩ := of_pinsAt hq
            rcases (fo q.1 q1).2.2.2.1 with z | z
            · exact nomatch z
            · have z1 : (trunc sr'.heap G.gl).objs.size ≤ q.1 := z
              rw [trunc_size (Nat.le_of_lt hz')] at z1
              exact z1
        refine hb.run U b n ys sr' Hr' _ _ _ _ id id _ s6 σ6 H6 { nx := N, ct := N, bk := D.nx } (al _) hn hz' hge2 (fun n' ys' sr2 Hr2 s7 f hn' hz2 z => ?_) I6 q6
        cases f with
        | next =>
          obtain ⟨σ7, H7, I7, n7⟩ := z
          exact again n' ys' sr2 Hr2 s7 σ7 H7 hn' hz2 I7 n7
        | cont =>
          obtain ⟨σ7, H7, I7, n7⟩ := z
          exact again n' ys' sr2 Hr2 s7 σ7 H7 hn' hz2 I7 n7
        | brk =>
          obtain ⟨σ7, H7, I7, n7⟩ := z
          refine s1_leaf (.ok .next) ?_
          exact k n' ys' sr2 Hr2 s7 .next hn' hz2 ⟨σ7, H7, I7.unpinned, n7⟩
        | ret v => exact z.elim
  exact loop m0 0 n ys sr Hr s2 σ H2 hn hz w0 I2 st2 f2
end
end GF

/-! A for over a generator def's call. -/
namespace GF
open PySem PySem.Spec PyProof.Rows L2 GenW

/-! ### a generator is woken -/
def wakes (M : Model) (A : Around) (Φ : End → Shared → Prop) (gs : GenState) (s : Shared) : Prop := match gs with
  | .fresh c => Seg1 M A Φ c (M.den c) [] s
  | .suspended k _ c _ fs _ => Seg1 M A Φ c (k (.send .none)) fs s
  | _ => False
theorem s1_resume {M : Model} {A : Around} {Φ : End → Shared → Prop} {E : Value → Shared → Prop} {s : Shared} {g : Nat} {gs : GenState} {l : List Value} {α : Type} {k : GenResult → Sem α} {Q : α → Shared → Prop} (hg : s.gens[g]? = some gs)
    (hgo : wakes M A Φ gs (s.setGen g .running)) (hq : ∀ e s1, Φ e s1 → e.quiet = true) (hQ : ∀ e s1, Φ e s1 → wpAny M A (k e.result) Q E (s1.setGen g e.genState)) : wpAny M A (.resume g (.send .none) l k) Q E s := by
  intro Γ p hΓ
  rw [Sem.wp_resume]
  cases gs with
  | fresh c =>
    obtain ⟨e, s1, hr, hf⟩ := hgo (Γ.wake c p) p rfl (hΓ.wake c p)
    refine ⟨e.result, s1.setGen g e.genState, ?_, hQ e s1 hf Γ p hΓ⟩
    unfold Wakes; rw [hg]
    exact ⟨e, s1, hr, hq e s1 hf, rfl, rfl⟩
  | suspended k0 l0 c0 p0 fs0 cl =>
    obtain ⟨e, s1, hr, hf⟩ := hgo (Γ.wake c0 p) p0 rfl (hΓ.wake c0 p)
    refine ⟨e.result, s1.setGen g e.genState, ?_, hQ e s1 hf Γ p hΓ⟩
    unfold Wakes; rw [hg]
    exact ⟨e, s1, hr, hq e s1 hf, rfl, rfl⟩
  | running => exact hgo.elim
  | finished => exact hgo.elim
theorem next_gen {P : Program} {w : World} {A : Around} {E : Value → Shared → Prop} {s : Shared} {a : Addr} {g : Nat} {gs : GenState} {Φ : End → Shared → Prop} {Q : Option Value → Shared → Prop} (hh : A.handled = none) (hl : s.heap.NoLimit)
    (hroom : A.depth < recursionLimit) (hg : s.heap.IsGen a g) (hgs : s.gens[g]? = some gs) (hgo : wakes (model P w) A.in1 Φ gs (s.setGen g .running)) (hq : ∀ e s1, Φ e s1 → e.quiet = true) (hret : ∀ r s1, Φ (.ret r) s1 → r = .ok (.ret .none))
    (hY : ∀ v g0 l k c p fs s1, Φ (.susp v g0 l k c p fs) s1 → Q (some v) (s1.setGen g (End.susp v g0 l k c p fs).genState))
    (hP : ∀ s1, Φ (.ret (.ok (.ret .none))) s1 → ∀ h', (∀ b o, s1.heap.get? b = some o → h'.get? b = some o) → Q none { s1.setGen g .finished with heap := h' }) : wpAny (model P w) A (pyNext (.ref a)) Q E s := by
  unfold pyNext
  refine wpAny_bind (wpAny_attempt ?_)
  refine wpAny_callSpecial?_slot (name := Str.ofString "__next__") hg.typeIs slot_gen_next ?_
  refine wpAny_call_entry slot_gen_next hg.typeIs entry_gen_next ?_ (args_gen_next _)
  show wpAny _ A.in1 (Builtin.Generator.genWake (.ref a) (.send .none)) _ _ s
  unfold Builtin.Generator.genWake
  refine wpAny_bind (wpAny_holding (wpAny_genNumber hg ?_))
  refine wpAny_bind (wpAny_genState hgs ?_)
  cases gs with
  | running => exact hgo.elim
  | finished => exact hgo.elim
  | _ =>
    refine wpAny_bind (wpAny_roomToWake hl hroom ?_)
    show wpAny _ A.in1 (.resume g (.send .none) [] _) _ _ s
    refine s1_resume hgs hgo hq fun e s1 hf => ?_
    cases e with
    | ret r =>
      have er := hret r s1 hf
      subst er
      show wpAny _ A.in1 (newExc (.type "StopIteration") [] >>= _) _ _ _
      refine wpAny_bind ?_
      simp only [newExc, newTuple]
      refine wpAny_bind (wpAny_newObj_type ?_ (by size_fits))
      refine wpAny_bind (m := firstArgMember _ _) ?_
      refine wpAny_of_eq (a := Value.none) (by first | rfl | (simp only [firstArgMember]; rfl)) ?_
      refine wpAny_newObj_type ?_ (by size_fits)
      simp only [raiseNew]
      refine wpAny_bind (wpAny_bind (wpAny_handled ?_))
      rw [show A.in1.handled = none from hh]
      refine wpAny_throw ?_
      refine wpAny_bind ?_
      refine wpAny_isInstance (T := "StopIteration") (b := true) ⟨_, Heap.get?_push_size _ rfl, rfl⟩ isSubtype_stop ?_
      exact wpAny_pure (hP s1 hf _ fun b o hb => Heap.get?_push_of_some _ (Heap.get?_push_of_some _ hb))
    | susp v g0 l k c p fs =>
      exact wpAny_pure ⟨v, rfl, wpAny_pure (hY v g0 l k c p fs s1 hf)⟩

/-! ### who walks it -/
section
variable {X : Cx} {pins : List (Addr × Obj)} {σ : L2.St} {H H' : Hp} {s s1 : Shared}
theorem inv_wg (I : Inv X pins σ H s) {g : Array GenState} (h : AllBare g) : Inv X pins σ H (wg s g) :=
  ⟨I.ok, I.os, h, I.base, I.loc, I.cell, I.free, I.freeC, I.pin, I.hok, I.len⟩
theorem inv_back {n : Nat} (I : Inv X pins σ H s) (hL : X.env.locals < n) (hc : ∀ x c, X.env.cells.lookup x = some c → c < n) (hp : ∀ p ∈ X.pn ++ pins, p.1 < n) (u : Un (frs X.stack) [] H H' (trunc s.heap n) s1.heap) (hok : HOk X.prog X.w H' s1.heap)
    (hb : AllBare s1.gens) (ho : s1.os = s.os) : Inv X pins σ H' s1 := by
  obtain ⟨h', g', d', t', os'⟩ := s1
  have ho' : os' = s.os := ho
  subst ho'
  have cut : ∀ b o, b ∉ (List.range s.heap.objs.size).filter (fun b => decide (n ≤ b)) → s.heap.get? b = some o → (trunc s.heap n).get? b = some o := fun b o hb e => by
    by_cases hz : b < n
    · rw [trunc_lt hz]; exact e
    · exact absurd (List.mem_filter.mpr ⟨List.mem_range.mpr (Heap.lt_size e), decide_eq_true (Nat.le_of_not_lt hz)⟩) hb
  obtain ⟨m, ⟨o, es, ep, hob, r⟩, _⟩ := id I.loc
  have hob' : (trunc s.heap n).get? X.env.locals = some o := by rw [trunc_lt hL]; exact hob
  obtain ⟨sl, hsl⟩ := u.any hob' I.free (by simp)
  refine I.step (ch := (List.range s.heap.objs.size).filter fun b => decide (n ≤ b)) (fun b hb => ?_) (fun b ob h1 h2 h3 e nn => ?_) (fun b ob h1 h2 h3 e nn => ?_) (fun b ob h3 e nn => u.free b ob (cut b ob h3 e) nn (by simp)) (fun b ob h3 e => u.there b ob (cut b ob h3 e) (by simp))
    u.tups u.frzs u.tbls (fun m' hm => ?_) hok hb
  · have hn : n ≤ b := of_decide_eq_true (List.mem_filter.mp hb).2
    refine ⟨.inr ?_, fun z => ?_, fun x c e z => ?_, fun p hp' z => ?_⟩
    · exact Nat.le_of_lt (Nat.lt_of_le_of_lt I.ok.above (Nat.lt_of_lt_of_le hL hn))
    · rw [z] at hn; exact absurd (Nat.lt_of_lt_of_le hL hn) (Nat.lt_irrefl _)
    · have := hc x c e
      rw [z] at this; exact absurd (Nat.lt_of_lt_of_le this hn) (Nat.lt_irrefl _)
    · have := hp p hp'
      rw [z] at this; exact absurd (Nat.lt_of_lt_of_le this hn) (Nat.lt_irrefl _)
  · refine u.keep b ob (cut b ob h3 e) nn (fun z => ?_) (by simp)
    exact (List.mem_cons.mp (I.stkSub b z)).elim h1 h2
  · exact u.any (cut b ob h3 e) nn (by simp)
  · obtain ⟨o', es', ep', ho', r'⟩ := hm
    rw [hob] at ho'; cases ho'
    exact ⟨_, es', ep', hsl, r'⟩
/-- an exception's wish asks no more of the generators than that they are bare -/
theorem xe_wg {W : WX} {E : Value → Shared → Prop} {u : Value} {g : Array GenState} (h : XE (X.wish E) W u s) (hg : AllBare g) : XE X W u (wg s g) := by
  obtain ⟨a, B, sI, pn, σ, H, cls, d, e, I, nb, up, sky, na, os, ag, hw⟩ := h
  exact ⟨a, B, sI, pn, σ, H, cls, d, e, I.unwish, nb, up, sky, na, os, hg, hw⟩
end
end GF

/-! The rule: for target in f(e, ..): body, f a generator def without cells of its own. -/
namespace GF
open PySem PySem.Spec PyProof.Rows L2 GenW

/-- the generator's surroundings, called from X -/
abbrev ge (X : Cx) (N : List Str) (qual : Str) (gscope : Scope) (f : Addr) (cdv : Value) (gl : Addr) (own : List (Addr × Obj)) : GE :=
  ⟨X.prog, X.w, X.K, X.mg, X.base, N, envOfC qual gscope gl f cdv, X.A.in1, X.stack, own⟩
/-- the end of a generator's code -/
abbrev gEnd (U : GW) : GD := { nx := fun Hr ys _ H => U.fin Hr ys H }
def tForG (ta : TA) (N : List Str) (tg : GW → TY) (g : L2.TG) (tb : TS) : TS := fun D σ H => ta σ H fun vs H1 => ∃ (U : GW) (b : Nat), (∀ H2, U.Gd H2 → tg U (gEnd U) H2 [] b (start N vs) H2) ∧
  ∃ W : Nat → List V → L2.St → Hp → Prop, (∃ m, W m [] σ H1) ∧ ∀ m ys σ H, W m ys σ H → U.Gd H ∧
    (∀ x H', U.yl H ys x H' → g x σ H' fun σ2 H2 => tb { D with nx := fun σ' H' => ∃ m', m' < m ∧ W m' (ys ++ [x]) σ' H', ct := fun σ' H' => ∃ m', m' < m ∧ W m' (ys ++ [x]) σ' H', bk := D.nx } σ2 H2) ∧ ∀ H', U.fin H ys H' → D.nx σ H'
theorem cells_acc : ∀ {l : List (Str × NameKind)} {n : Nat} {acc : List (Str × Addr)}, (∀ y ∈ l, y.2 ≠ .cell) → cellsFrom n l acc = acc
  | [], _, _, _ => rfl
  | (x, k) :: r, n, acc, h => by
    have hk : (k == NameKind.cell) = false := by
      have := h (x, k) List.mem_cons_self
      cases k <;> first | rfl | exact absurd rfl this
    unfold cellsFrom
    rw [hk]
    exact cells_acc fun y hy => h y (List.mem_cons_of_mem _ hy)
theorem ph_quiet {G : GE} {U : GW} {n : Nat} {sr : Shared} {Hr : Hp} {ys : List V} : ∀ e s1, U.ph G n sr Hr ys e s1 → e.quiet = true := fun e s1 h => by
  cases e with
  | ret r => rfl
  | susp v g l k c p fs =>
    cases n with
    | zero => exact h.elim
    | succ n => exact h.1
theorem ph_ret {G : GE} {U : GW} {n : Nat} {sr : Shared} {Hr : Hp} {ys : List V} {r : Result} {s1 : Shared} (h : U.ph G n sr Hr ys (.ret r) s1) : r = .ok (.ret .none) ∧ ∃ H, Out G sr Hr s1 H ∧ U.fin Hr ys H := by
  cases n with
  | zero => exact h
  | succ n => exact h
/-- the generator at a, by number g, as it sleeps: n items at most are to come, ys are out -/
structure Lies (G : GE) (U : GW) (a : Addr) (g : Nat) (n : Nat) (ys : List V) (s : Shared) (H : Hp) (ip : List (Addr × Obj)) (og : Obj) (gs : GenState) : Prop where
  at_ : s.gens[g]? = some gs
  slp : (∃ c, gs = .fresh c) ∨ asleep gs = true
  fr : s.heap.get? G.gl = some og ∧ H G.gl = none
  fro : G.gl ∉ frs G.outer ∧ ∀ v, og.data ≠ .cell v
  pins : ∀ p ∈ ip, s.heap.get? p.1 = some p.2 ∧ H p.1 = none
  own : ∀ p ∈ G.own, s.heap.get? p.1 = some p.2 ∧ H p.1 = none
  ok : ∀ p ∈ ip, p.1 ∉ frs G.outer ∧ G.gl ≤ p.1 ∧ ∀ v, p.2.data ≠ .cell v
  next : ∀ s2 H2, Wake G ip og s2 H2 → U.Gd H2 → wakes (model G.P G.w) G.Aw (U.ph G n s2 H2 ys) gs s2
theorem at_func {G : GE} {body : List Stmt} : At G (.func body G.env) [] id := ⟨over_func, rfl, rfl, rfl⟩
section
variable {X : Cx} {k : Nat} {x qual : Str} {f : Addr} {fd : FuncData} {params : Arguments} {gbody : List Stmt} {gscope : Scope} {N ps : List Str} {e : Expr} {es : List Expr} {tgt : Expr} {body : List Stmt} {p pc pos : Pos} {ta : TA} {tg : GW → TY} {g : L2.TG} {tb : TS} {Wx : WX}
theorem fs_stack (ok : X.Ok) : ∀ b ∈ X.fs, b ∈ frs X.stack := fun b hb => by
  rcases ok.stk with e | ⟨e, hf⟩
  · rw [e]; exact hb
  · rw [e]
    unfold frs
    rw [List.filterMap_cons, hf]
    exact List.mem_cons_of_mem _ hb
/-- the walk, from where the generator lies -/
theorem walk_gen {G : GE} {U : GW} {b : Nat} {pins : List (Addr × Obj)} {D : Ends} {W : Nat → List V → L2.St → Hp → Prop} {a : Addr} {go : Obj} {gn : Nat} (hp : PassesOwn (model X.prog X.w) X.A X.env X.xe) (ok : X.Ok) (hcalm : X.calm = true)
    (eP : G.P = X.prog) (ew : G.w = X.w) (eA : G.Aw = X.A.in1) (eO : G.outer = X.stack) (eE : ∀ s H, Env0 X.prog X.w X.K X.mg X.base X.A.in1 X.stack s H → Env0 G.P G.w G.K G.mg G.base G.Aw G.outer s H) (eown : G.own = [(a, go)])
    (hL : X.env.locals < G.gl) (hc : ∀ x c, X.env.cells.lookup x = some c → c < G.gl) (hfs : ∀ b ∈ X.fs, b < G.gl) (hpn : ∀ p ∈ X.pn ++ pins, p.1 < G.gl) (hga : G.gl ≤ a) (hgo : ∀ h : Heap, h.get? a = some go → h.IsGen a gn) (hgt : go.cls = .type "generator" ∧ ∃ vs, go.data = .fields vs)
    (hroom : X.A.depth < recursionLimit) (hg : PG X.nox tgt g) (tk : Takes X Wx) (hbody : ∀ xe, Takes (X.wish xe) Wx → PSs (X.wish xe) body tb)
    (turn : ∀ m ys σ H, W m ys σ H → U.Gd H ∧ (∀ x H', U.yl H ys x H' → g x σ H' fun σ2 H2 => tb { D with nx := fun σ' H' => ∃ m', m' < m ∧ W m' (ys ++ [x]) σ' H', ct := fun σ' H' => ∃ m', m' < m ∧ W m' (ys ++ [x]) σ' H', bk := D.nx } σ2 H2) ∧ ∀ H', U.fin H ys H' → D.nx σ H')
    (m0 : Nat) (s0 : Shared) (h0 : ∃ ys σ H n ip og gs, Inv X pins σ H s0 ∧ W m0 ys σ H ∧ Lies G U a gn n ys s0 H ip og gs) :
    codeAny (model X.prog X.w) X.A (.forLoop tgt (.ref a) body [] X.env) (fun r s' => match r with | .ok f => SP X pins D f s' | .error e => cameBackBy (model X.prog X.w) X.A X.env X.xe e s') s0 := by
  refine codeAny_forLoop_any (fun m s' => ∃ ys σ H n ip og gs, Inv X pins σ H s' ∧ W m ys σ H ∧ Lies G U a gn n ys s' H ip og gs) (fun m s hI => ?_) m0 h0
  obtain ⟨ys, σ, H, n, ip, og, gs, I, w0, L⟩ := hI
  obtain ⟨hGd, hitem, hend⟩ := turn m ys σ H w0
  have hown : s.heap.get? a = some go ∧ H a = none := L.own (a, go) (by rw [eown]; exact List.mem_cons_self)
  have hbr : AllBare (s.setGen gn .running).gens := allBare_setGen I.bare rfl
  have Iw : Inv X pins σ H (s.setGen gn .running) := inv_wg I hbr
  have wk : Wake G ip og (s.setGen gn .running) H := ⟨eE _ _ Iw.env0.in1, L.fr, L.pins, L.own⟩
  have hgo1 := L.next _ _ wk hGd
  rw [eP, ew, eA] at hgo1
  have hsz : gn + 1 ≤ s.gens.size := (Array.getElem?_eq_some_iff.mp L.at_).1
  refine wpAny_gsz hsz ?_
  refine next_gen (ok.hd hcalm) I.nolimit hroom (hgo _ hown.1) L.at_ hgo1 ph_quiet (fun r s1 z => (ph_ret z).1) (fun v g0 l k c p fs s1 hs hsz5 => ?_) fun s1 hs h' hk _ => ?_
  · -- an item
    cases n with
    | zero => exact hs.elim
    | succ n =>
      obtain ⟨hq, x, H5, ip5, σg, og5, rv, ho, hy, hslp, hog, hgn, hpi, how, hge, hnext⟩ := hs
      have hun : Un (frs X.stack) [] H H5 (trunc (s.setGen gn .running).heap G.gl) s1.heap := by rw [← eO]; exact ho.un
      have hok5 : HOk X.prog X.w H5 s1.heap := by rw [← eP, ← ew]; exact ho.hok
      have I1 : Inv X pins σ H5 s1 := inv_back Iw hL hc hpn hun hok5 ho.bare ho.os
      generalize hgs5 : (End.susp v g0 l k c p fs).genState = gs5 at *
      have as5 : asleep gs5 = true := by rw [← hgs5]; rfl
      have nx5 : ∀ s2 H2, Wake G ip5 og5 s2 H2 → U.Gd H2 → wakes (model G.P G.w) G.Aw (U.ph G n s2 H2 (ys ++ [x])) gs5 s2 := by rw [← hgs5]; exact hnext
      have hb5 : AllBare (s1.setGen gn gs5).gens := allBare_setGen ho.bare (by rw [← hgs5]; exact End.bare_of_quiet hq)
      have at5 : (s1.setGen gn gs5).gens[gn]? = some gs5 := setGen_at (by rw [setGen_size] at hsz5; exact hsz5)
      have I5 : Inv X pins σ H5 (s1.setGen gn gs5) := inv_wg I1 hb5
      have ow5 : s1.heap.get? a = some go ∧ H5 a = none := how (a, go) (by rw [eown]; exact List.mem_cons_self)
      have nd5 : ∀ v, og5.data ≠ .cell v := fun v z => by
        obtain ⟨mm, ⟨o, es, ep, e1, e2, _⟩, _⟩ := hslp.loc s1.heap hog
        rw [hog] at e1
        cases e1
        rw [e2] at z
        cases z
      have far : ∀ q : Addr, G.gl ≤ q → q ≠ X.env.locals ∧ q ∉ X.fs := fun q hq => ⟨fun z => by rw [z] at hq; exact absurd (Nat.lt_of_lt_of_le hL hq) (Nat.lt_irrefl _), fun z => absurd (Nat.lt_of_lt_of_le (hfs q z) hq) (Nat.lt_irrefl _)⟩
      have I5p : Inv X (pins ++ (G.gl, og5) :: (a, go) :: ip5) σ H5 (s1.setGen gn gs5) := I5.pins_of fun q hq => by
        rcases List.mem_append.mp hq with hq | hq
        · exact I5.pin q (List.mem_append_right _ hq)
        rcases List.mem_cons.mp hq with hq | hq
        · rw [hq]
          exact ⟨hog, hgn, (far _ (Nat.le_refl _)).1, (far _ (Nat.le_refl _)).2, nd5⟩
        rcases List.mem_cons.mp hq with hq | hq
        · rw [hq]
          obtain ⟨z1, vs, z2⟩ := hgt
          exact ⟨ow5.1, ow5.2, (far _ hga).1, (far _ hga).2, fun v z => by rw [z2] at z; cases z⟩
        · exact ⟨(hpi q hq).1, (hpi q hq).2, (far _ (hge q hq)).1, (far _ (hge q hq)).2, (hslp.pins q hq).2.2⟩
      obtain ⟨gc, gvs, gd⟩ := hgt
      refine go_of (s := s1.setGen gn gs5) ow5.1 gc gd (by decide) ?_
      refine wpAny_mono (wpAny_beside (hg.run (pins ++ (G.gl, og5) :: (a, go) :: ip5) (wg (s1.setGen gn gs5) ((s1.setGen gn gs5).gens.map poison)) σ H5 x v _ (inv_wg (I5p.wish _) (bare_poisoned hb5)) rv (hitem x H5 hy))) (fun _ s6 z => ?_) fun _ _ z => by
        obtain ⟨_, _, z⟩ := z
        exact z.elim
      obtain ⟨g6, S6, σ6, H6, I6', q6⟩ := z
      have hb6 : AllBare s6.gens := S6.bare hb5 I6'.bare
      have I6 : Inv X (pins ++ (G.gl, og5) :: (a, go) :: ip5) σ6 H6 s6 := inv_wg I6'.unwish hb6
      have at6 : s6.gens[gn]? = some gs5 := (S6.slept gn gs5 at5 as5).2
      have tk' : Takes (X.wish fun e s' => AllBare s'.gens ∧ ∀ g', AllBare g' → X.xe e (wg s' g')) Wx := fun u s' hx => by
        refine ⟨?_, fun g' hg' => tk u (wg s' g') (xe_wg hx hg')⟩
        obtain ⟨_, _, _, _, _, _, _, _, _, _, _, _, _, _, _, ag, _⟩ := hx
        exact ag
      refine wpAny_passesOwn hp (wpAny_mono (wpAny_beside ((hbody _ tk').run (pins ++ (G.gl, og5) :: (a, go) :: ip5) (wg s6 (s6.gens.map poison)) σ6 H6 _ (inv_wg (I6.wish _) (bare_poisoned hb6)) q6)) (fun f s7 z => ?_) fun e s7 z => ?_)
      · obtain ⟨g7, S7, z⟩ := z
        have fin : ∀ σ7 H7, Inv (X.wish fun e s' => AllBare s'.gens ∧ ∀ g', AllBare g' → X.xe e (wg s' g')) (pins ++ (G.gl, og5) :: (a, go) :: ip5) σ7 H7 (wg s7 g7) → Inv X (pins ++ (G.gl, og5) :: (a, go) :: ip5) σ7 H7 s7 := fun σ7 H7 I7' => inv_wg I7'.unwish (S7.bare hb6 I7'.bare)
        have small : ∀ {σ7 H7}, Inv X (pins ++ (G.gl, og5) :: (a, go) :: ip5) σ7 H7 s7 → Inv X pins σ7 H7 s7 := fun {σ7 H7} I7 => I7.pins_of fun q hq => I7.pin q (List.mem_append_right _ (List.mem_append_left _ hq))
        have again : ∀ σ7 H7, Inv X (pins ++ (G.gl, og5) :: (a, go) :: ip5) σ7 H7 s7 → (∃ m', m' < m ∧ W m' (ys ++ [x]) σ7 H7) → ∃ m', m' < m ∧ ∃ ys σ H n ip og gs, Inv X pins σ H s7 ∧ W m' ys σ H ∧ Lies G U a gn n ys s7 H ip og gs := fun σ7 H7 I7 ⟨m', hm, w7⟩ => by
          have pn7 : ∀ q, q ∈ (G.gl, og5) :: (a, go) :: ip5 → s7.heap.get? q.1 = some q.2 ∧ H7 q.1 = none := fun q hq => by
            have z := I7.pin q (List.mem_append_right _ (List.mem_append_right _ hq))
            exact ⟨z.1, z.2.1⟩
          refine ⟨m', hm, ys ++ [x], σ7, H7, n, ip5, og5, gs5, small I7, w7, ⟨(S7.slept gn gs5 at6 as5).2, .inr as5, pn7 _ List.mem_cons_self, ⟨L.fro.1, nd5⟩, fun q hq => pn7 q (List.mem_cons_of_mem _ (List.mem_cons_of_mem _ hq)), fun q hq => ?_, fun q hq => ⟨(hslp.pins q hq).2.1, hge q hq, (hslp.pins q hq).2.2⟩, nx5⟩⟩
          rw [eown] at hq
          rw [List.mem_singleton.mp hq]
          exact pn7 _ (List.mem_cons_of_mem _ List.mem_cons_self)
        cases f with
        | next =>
          obtain ⟨σ7, H7, I7', q7⟩ := z
          exact again σ7 H7 (fin _ _ I7') q7
        | cont =>
          obtain ⟨σ7, H7, I7', q7⟩ := z
          exact again σ7 H7 (fin _ _ I7') q7
        | brk =>
          obtain ⟨σ7, H7, I7', q7⟩ := z
          exact ⟨σ7, H7, small (fin _ _ I7'), q7⟩
        | ret u =>
          obtain ⟨v7, σ7, H7, I7', r7, q7⟩ := z
          exact ⟨v7, σ7, H7, small (fin _ _ I7'), r7, q7⟩
      · obtain ⟨g7, S7, z1, z2⟩ := z
        exact z2 s7.gens (S7.bare hb6 z1)
  · -- the end
    obtain ⟨_, H5, ho, hf⟩ := ph_ret hs
    have hun : Un (frs X.stack) [] H H5 (trunc (s.setGen gn .running).heap G.gl) s1.heap := by rw [← eO]; exact ho.un
    have hok5 : HOk X.prog X.w H5 s1.heap := by rw [← eP, ← ew]; exact ho.hok
    have I1 : Inv X pins σ H5 s1 := inv_back Iw hL hc hpn hun hok5 ho.bare ho.os
    refine wpAny_execs_nil ⟨σ, H5, ?_, hend H5 hf⟩
    exact I1.call' (ch := []) rfl (Un.kept hk) (I1.hok.kept hk) (allBare_setGen ho.bare rfl) fun b z => by simp at z
theorem ps_forG (hp : PassesOwn (model X.prog X.w) X.A X.env X.xe) (hcalm : X.calm = true) (F : FunD X.K x qual params gbody gscope [] [] f fd) (S : GScope N ps gscope) (nc : ∀ y ∈ gscope.names, y.2 ≠ .cell) (hgl : Gl X x) (hm : X.mg x = some (.ref f))
    (hb : L2.Binds X.K fd ps []) (hr : Room (k + 2) X.A) (ha : PA X (e :: es) ta) (hlen : ∀ σ H Q, ta σ H Q → ta σ H fun vs H1 => vs.length = ps.length ∧ Q vs H1)
    (hgb : ∀ cdv gl own, GSt (ge X N qual gscope f cdv gl own) → Room k ((ge X N qual gscope f cdv gl own).Aw.deeper (ge X N qual gscope f cdv gl own).env) → GSs1 (ge X N qual gscope f cdv gl own) gbody tg)
    (hg : PG X.nox tgt g) (tk : Takes X Wx) (hbody : ∀ xe, Takes (X.wish xe) Wx → PSs (X.wish xe) body tb)
    (hdb : (x == ("__debug__" : Str)) = false := by decide) (he : starEach (e :: es) X.env = (false, eval e X.env) :: starEach es X.env := by rfl) (hpl : (backTo pc (starEach es X.env)).any (·.1) = false := by rfl) :
    PS X (.For tgt (.Call (.Name x p) (e :: es) [] pc) body [] pos) (tForG ta N tg g tb) := by
  refine ⟨fun pins s σ H D I h => ?_⟩
  obtain ⟨oc, od, dV, kV, doc, pm, an, cdv, ct, osl, efd, lk, hcd, _, _⟩ := F.ex
  refine wpAny_For ?_
  refine wpAny_Call_Name_kw (ld_glob I hgl hm ?_ hdb)
  refine PySem.W.callWith_K (h₀ := X.base) I.ok.mod.kin F.kp (thn (ha.run pc pins s σ H _ I (hlen σ H _ h)) fun us s1 hh => ?_) he hpl
  obtain ⟨vs, H1, I1, r, hvl, U, b, hstart, W, ⟨m0, w0⟩, turn⟩ := hh
  refine ⟨I1.kIn, ?_⟩
  have hul : (us ++ []).length = ps.length := by rw [List.append_nil, ← r.length]; exact hvl
  have hbd := hb s1 us I1.kIn hul
  rw [List.append_nil] at hbd
  subst efd
  show wpAny _ _ (call (.ref f) us) _ _ _
  refine wpAny_call (codeAny_call_generator (by have := hr.dp; omega) (I1.kIn _ _ lk) rfl S.co S.gen rfl (PySem.W.codeRec_of I1.kIn hcd) (hbd _ _ _ _ ?_))
  have hkind : ∀ y ∈ ps.zip us, gscope.names.lookup y.1 = some .local ∨ (gscope.names.lookup y.1 = some .cell ∧ ((cellsFrom (s1.heap.objs.size + 1) gscope.names []).lookup y.1).isSome = true) := fun ⟨n, v⟩ hy => by
    rcases S.par n (List.of_mem_zip hy).1 with q | q
    · exact .inl q
    · exact absurd rfl (nc _ (PySem.mem_of_lookup q))
  refine wpAny_newFunctionEnv_cells S.kind hkind fun env he s2 x2 => ?_
  subst he
  have e0 : Env0 X.prog X.w X.K X.mg X.base X.A.in1 X.stack s1 H1 := I1.env0.in1
  have J0 := inv_startG (E := fun _ _ _ => False) S (show X.A.in1.handled = none from I1.ok.hd hcalm) e0 hvl r x2
  obtain ⟨h2, tk2, es2, kp2⟩ := x2.done
  have kpA : ∀ b o, s1.heap.get? b = some o → s2.heap.get? b = some o := x2.toInCall.keep
  have os2 : s2.os = s1.os := by rw [es2]
  have ge2 : s2.gens = s1.gens := by rw [es2]
  have lim2 : s2.heap.NoLimit := I1.nolimit.keeps kpA
  refine ⟨lim2, ?_⟩
  -- the generator's own object
  generalize hgo : ({ cls := .type "generator", data := .fields #[.int s2.gens.size 0, .str x s2.toks, .str qual (s2.toks + 1)] } : Obj) = go
  have hgo' : go.cls = .type "generator" ∧ go.data = .fields #[.int s2.gens.size 0, .str x s2.toks, .str qual (s2.toks + 1)] ∧ go.slots = #[] := by subst hgo; exact ⟨rfl, rfl, rfl⟩
  have hpush : (s2.heap.push go).get? s2.heap.objs.size = some go := by subst hgo; exact Heap.get?_push_size _ rfl
  have kpN : ∀ b o, s1.heap.get? b = some o → (s2.heap.push go).get? b = some o := fun b o e => Heap.get?_push_of_some _ (kpA b o e)
  have hbN : AllBare (s2.gens.push (.fresh (.func gbody (envOfC qual gscope s1.heap.objs.size f cdv)))) := AllBare.push (by rw [ge2]; exact I1.bare) rfl
  have IN : Inv X pins σ H1 ({ s2 with gens := s2.gens.push (.fresh (.func gbody (envOfC qual gscope s1.heap.objs.size f cdv))), toks := s2.toks + 1 + 1, heap := s2.heap.push go } : Shared) :=
    I1.call' (ch := []) os2 (Un.kept kpN) (I1.hok.kept kpN) hbN fun b z => by simp at z
  have isG : ∀ h : Heap, h.get? s2.heap.objs.size = some go → h.IsGen s2.heap.objs.size s2.gens.size := fun h e => ⟨go, _, _, e, hgo'.1, hgo'.2.1, hgo'.2.2⟩
  refine wpAny_pyIter_gen (isG _ hpush) ?_
  -- the frame
  have lt2 : s1.heap.objs.size < s2.heap.objs.size := x2.toInCall.ns.lt
  have frsLt : ∀ b ∈ frs X.stack, b < s1.heap.objs.size := fun b hb => by
    obtain ⟨_, o, ho, _⟩ := I1.stack.mem hb
    exact Heap.lt_size ho
  have Sg : GSt (ge X N qual gscope f cdv s1.heap.objs.size [(s2.heap.objs.size, go)]) :=
    { mod := I1.ok.mod, kind := S.kind, glob := rfl, blt := rfl, cells := cells_acc nc
      nocell := fun y => ⟨fun z => nc _ (PySem.mem_of_lookup (show gscope.names.lookup y = some .cell from z)) rfl, fun z => S.nofree _ (PySem.mem_of_lookup (show gscope.names.lookup y = some .free from z)) rfl⟩
      frame := rfl, bsz := Nat.le_trans I1.ok.bsz I1.sz, out := frsLt, hd := I1.ok.hd hcalm, frames := I1.ok.frames
      own := fun q hq => by
        rw [List.mem_singleton.mp hq]
        refine ⟨Nat.ne_of_gt lt2, fun z => ?_, fun v z => ?_⟩
        · exact absurd (Nat.lt_trans (frsLt _ z) lt2) (Nat.lt_irrefl _)
        · rw [hgo'.2.1] at z; cases z }
  obtain ⟨mm, ⟨og, oes, oep, og1, og2, og3, og4⟩, ogl⟩ := id J0.loc
  have lo : LocO (ge X N qual gscope f cdv s1.heap.objs.size [(s2.heap.objs.size, go)]) (start N vs) og := fun h e => by
    refine ⟨mm, ⟨og, oes, oep, e, og2, og3, og4⟩, fun i y v h1 h2 h3 => ?_⟩
    obtain ⟨u, ru, l⟩ := ogl i y v h1 h2 h3
    rcases l with l | ⟨z, _⟩
    · exact ⟨u, ru, l.1, l.2⟩
    · exact z.elim (fun z => absurd z (Sg.nocell y).1) fun z => absurd z (Sg.nocell y).2
  have slp : Slp (ge X N qual gscope f cdv s1.heap.objs.size [(s2.heap.objs.size, go)]) [] (start N vs) og := ⟨lo, J0.len, fun q hq => (nomatch hq)⟩
  have hroom : Room k ((ge X N qual gscope f cdv s1.heap.objs.size [(s2.heap.objs.size, go)]).Aw.deeper (ge X N qual gscope f cdv s1.heap.objs.size [(s2.heap.objs.size, go)]).env) := (hr.in1).deeper _
  refine walk_gen (G := ge X N qual gscope f cdv s1.heap.objs.size [(s2.heap.objs.size, go)]) (U := U) (b := b) (W := W) (gn := s2.gens.size) (go := go) hp I1.ok hcalm rfl rfl rfl rfl (fun _ _ e => e) rfl I1.lt (fun y c e => ?_) (fun b hb => ?_) (fun q hq => Heap.lt_size (I1.pin q hq).1) (Nat.le_of_lt lt2) isG
    ⟨hgo'.1, _, hgo'.2.1⟩ (by have := hr.dp; omega) hg tk hbody turn m0 _ ⟨[], σ, H1, b, [], og, .fresh (.func gbody (envOfC qual gscope s1.heap.objs.size f cdv)), IN, w0, ?_⟩
  · obtain ⟨v, z⟩ := I1.cell y c e
    exact z.lt
  · exact frsLt b (fs_stack I1.ok b hb)
  · have hfree : H1 s1.heap.objs.size = none := I1.hok.fresh (Nat.le_refl _)
    refine ⟨Array.getElem?_push_size .., .inl ⟨_, rfl⟩, ⟨Heap.get?_push_of_some _ og1, hfree⟩, ⟨fun z => absurd (frsLt _ z) (Nat.lt_irrefl _), fun v z => by rw [og2] at z; cases z⟩, fun q hq => (nomatch hq), fun q hq => ?_, fun q hq => (nomatch hq), fun s3 H3 wk hgd => ?_⟩
    · rw [List.mem_singleton.mp hq]
      exact ⟨hpush, I1.hok.fresh (Nat.le_of_lt lt2)⟩
    · refine s1_func fun J => ?_
      refine (hgb cdv _ _ Sg hroom).run U b b [] s3 H3 _ [] _ J id id [] s3 (start N vs) H3 (gEnd U) at_func (Nat.add_zero _) (Heap.lt_size wk.fr.1) (fun q hq => (nomatch hq)) (fun n' ys' sr' Hr' s' fl hn' hz' z => ?_) (gx_inv Sg slp wk) (hstart H3 hgd)
      cases fl with
      | next =>
        obtain ⟨σ', H', I', q⟩ := z
        refine s1_end (.ok (.ret .none)) ?_
        have q2 : U.fin Hr' ys' H' := q
        cases n' with
        | zero => exact ⟨rfl, H', (gx_out Sg I').1, q2⟩
        | succ n' => exact ⟨rfl, H', (gx_out Sg I').1, q2⟩
      | brk => obtain ⟨_, _, _, q⟩ := z; exact q.elim
      | cont => obtain ⟨_, _, _, q⟩ := z; exact q.elim
      | ret u => exact z.elim
end
end GF

/-! Words of our own over the hand layer. -/
namespace Cp
open PySem PySem.Spec PyProof.Rows L2

theorem Same.seqT {K : PySem.W.Frag} {H H' : Hp} {a : Addr} {xs : List V} (e : Same H H') (h : SqT K H a xs) : SqT K H' a xs := by
  rcases h with h | h
  · exact .inl (Evl.ex_rd e h)
  · exact .inr h
/-- a list or a tuple -/
def Sq (K : PySem.W.Frag) (H : Hp) (a : Addr) (xs : List V) : Prop := SqL K H a xs ∨ SqT K H a xs
theorem Sq.same {K : PySem.W.Frag} {H H' : Hp} {a : Addr} {xs : List V} (h : Sq K H a xs) (e : Same H H') : Sq K H' a xs := h.elim (fun z => .inl (e.seq z)) fun z => .inr (Same.seqT e z)
theorem same_new {H : Hp} {p : Addr} {o : HO} (h : H p = none) : Same H (upd H p o) := fun a u e => by rw [upd_ne (ne_of_none e h)]; exact e
theorem same_mut {H H' : Hp} {p : Addr} {o : HO} (e : Same H H') (h : H p = none) : Same H (upd H' p o) := fun a u ha => by
  rw [upd_ne (ne_of_none ha h)]
  exact e a u ha
section
variable {X : Cx}
/-- a name that holds a list or a tuple, walked -/
def iSq (K : PySem.W.Frag) (i : Nat) : TI := fun σ H R => ∃ a, σ[i]? = some (some (.ref a)) ∧ (((∃ xs, SqL K H a xs) ∧ R (Itl K a) H) ∨ ((∃ xs, SqT K H a xs) ∧ R (Itt K a) H))
theorem pi_sq (i : Nat) {x : Str} {pos : Pos} {tg : Expr} (hN : X.N[i]? = some x := by rfl) (hv : Vis X.env.scope x := by first | exact Or.inl rfl | exact Or.inr (Or.inl rfl) | exact Or.inr (Or.inr rfl)) (hd : (x == ("__debug__" : Str)) = false := by decide) (hcd : (x == ("__classdict__" : Str)) = false := by decide) :
    PI X tg (.Name x pos) (iSq X.K i) := by
  refine ⟨fun pins s σ H R I h => ?_⟩
  obtain ⟨a, e, h⟩ := h
  rcases h with ⟨hx, h⟩ | ⟨hx, h⟩
  · exact (pi_list (pv i hN hv hd hcd)).run pins s σ H R I ⟨_, e, a, rfl, hx, h⟩
  · exact (pi_tup (pv i hN hv hd hcd)).run pins s σ H R I ⟨_, e, a, rfl, hx, h⟩
/-- what is never reached -/
theorem pe_no {e : Expr} : PE X e (fun _ _ _ => False) := ⟨fun _ _ _ _ _ _ h => h.elim⟩
theorem pi_no {tg e : Expr} : PI X tg e (fun _ _ _ => False) := ⟨fun _ _ _ _ _ _ h => h.elim⟩
theorem pss_no {st : List Stmt} : PSs X st (fun _ _ _ => False) := ⟨fun _ _ _ _ _ _ h => h.elim⟩
theorem ps_no {st : Stmt} : PS X st (fun _ _ _ => False) := ⟨fun _ _ _ _ _ _ h => h.elim⟩
end
theorem if_t {c : Bool} {A B : Prop} (hc : c = true) (h : A) : if c = true then A else B := by
  rw [if_pos hc]
  exact h
theorem if_f {c : Bool} {A B : Prop} (hc : c = false) (h : B) : if c = true then A else B := by
  rw [hc, if_neg Bool.false_ne_true]
  exact h
/-- a statement without bodies -/
def FlatS (K : PySem.W.Frag) (H : Hp) (t : Addr) (w : Str) (rest : List V) : Prop := SqT K H t (.str w :: rest) ∧ w ≠ "if" ∧ w ≠ "while" ∧ rest.length ≤ 10
theorem FlatS.same {K : PySem.W.Frag} {H H' : Hp} {t : Addr} {w : Str} {rest : List V} (h : FlatS K H t w rest) (e : Same H H') : FlatS K H' t w rest := ⟨Same.seqT e h.1, h.2⟩
def Flat (K : PySem.W.Frag) (H : Hp) (v : V) : Prop := ∃ t w rest, v = .ref t ∧ FlatS K H t w rest
theorem Flat.same {K : PySem.W.Frag} {H H' : Hp} {v : V} (h : Flat K H v) (e : Same H H') : Flat K H' v := let ⟨t, w, r, a, b⟩ := h; ⟨t, w, r, a, b.same e⟩
/-- a body of statements without bodies -/
def FlatB (K : PySem.W.Frag) (H : Hp) (a : Addr) (xs : List V) : Prop := Sq K H a xs ∧ xs.length ≤ 100 ∧ ∀ x ∈ xs, Flat K H x
theorem FlatB.same {K : PySem.W.Frag} {H H' : Hp} {a : Addr} {xs : List V} (h : FlatB K H a xs) (e : Same H H') : FlatB K H' a xs := ⟨h.1.same e, h.2.1, fun x hx => (h.2.2 x hx).same e⟩

open Evl
section
variable {K : PySem.W.Frag} {σ : L2.St} {H : Hp} {ta tb te : TE} {x y z v : V}
/-- len of a list or a tuple -/
theorem ev_lenQ {p : Addr} {xs : List V} (ha : Ev ta σ H (.ref p)) (h : Sq K H p xs) : Ev (tCB (rLenS K) (tCons ta tNil)) σ H (.int (xs.length : Int)) := fun H1 e Q q =>
  ha H1 e _ fun H2 e2 => ⟨p, xs, rfl, h.elim (fun z => Or.inl (ex_l (e.trans e2) z)) (fun z => Or.inr (ex_t (e.trans e2) z)), q H2 e2⟩
theorem et_eq {a b : V} (h1 : Ev ta σ H a) (h2 : Ev tb σ H b) (hs : scal a b = true) : EvT (tTest (tOp rEq ta tb)) σ H (decide (a = b)) := et_test (ev_op h1 h2 (rv_eq hs))
theorem et_ne {a b : V} (h1 : Ev ta σ H a) (h2 : Ev tb σ H b) (hs : scal a b = true) : EvT (tTest (tOp rNe ta tb)) σ H (!decide (a = b)) := et_test (ev_op h1 h2 (rv_ne hs))
theorem ev_ixT {p : Addr} {xs : List V} {i : Int} (h1 : Ev ta σ H (.ref p)) (h2 : Ev tb σ H (.int i)) (h : SqT K H p xs) (ha : atI xs i = some v) : Ev (tOp (rIxT K) ta tb) σ H v := ev_op h1 h2 (rv_ixT h ha)
end

/-! ### values by what is true of them -/
section
variable {K : PySem.W.Frag} {σ : L2.St} {H : Hp}
/-- what H3 keeps of a stretch from H1 to H2: what H knows, and what is new -/
structure Kp (H H1 H2 H3 : Hp) : Prop where
  old : Ex H H3
  new : ∀ a o, H1 a = none → H2 a = some o → H3 a = some o
theorem Kp.self {H1 H2 : Hp} (e : Ex H H2) : Kp H H1 H2 H2 := ⟨e, fun _ _ _ h => h⟩
theorem Kp.ext {H1 H2 H3 H4 : Hp} (k : Kp H H1 H2 H3) (e : Ex H3 H4) : Kp H H1 H2 H4 := ⟨k.old.trans e, fun a o n h => e a o (k.new a o n h)⟩
/-- a part of the stretch -/
theorem Kp.part {H1 H2 H3 H4 H5 : Hp} (k : Kp H H1 H2 H3) (e1 : Ex H1 H4) (e2 : Ex H5 H2) : Kp H H4 H5 H3 := ⟨k.old, fun a o n h => k.new a o (fresh_back e1 n) (e2 a o h)⟩
/-- te gives a value of which P holds, whatever else becomes of the heap; what is known stands -/
def EvP (te : TE) (σ : L2.St) (H : Hp) (P : V → Hp → Prop) : Prop := ∀ H1, Ex H H1 → ∀ Q : VK, (∀ v H2, Ex H1 H2 → (∀ H3, Kp H H1 H2 H3 → P v H3) → Q v H2) → te σ H1 Q
theorem EvP.of {te : TE} {v : V} {P : V → Hp → Prop} (h : Ev te σ H v) (hp : ∀ H1, Ex H H1 → P v H1) : EvP te σ H P := fun H1 e Q q => h H1 e Q fun H2 e2 => q v H2 e2 fun H3 k => hp H3 k.old
theorem EvP.imp {te : TE} {P P' : V → Hp → Prop} (h : EvP te σ H P) (hp : ∀ v H1, Ex H H1 → P v H1 → P' v H1) : EvP te σ H P' := fun H1 e Q q => h H1 e Q fun v H2 e2 p => q v H2 e2 fun H3 k => hp v H3 k.old (p H3 k)
theorem EvP.mono {te : TE} {P : V → Hp → Prop} {H' : Hp} (e : Ex H H') (h : EvP te σ H P) : EvP te σ H' P := fun H1 a Q q => h H1 (e.trans a) Q fun v H2 e2 p => q v H2 e2 fun H3 k => p H3 ⟨e.trans k.old, k.new⟩
/-- what is walked: n turns, at turn i Y -/
def EvW (wi : TI) (σ : L2.St) (H : Hp) (n : Nat) (Y : Nat → Hp → V → Hp → Prop) : Prop := ∃ (J : It) (G : Hp → Prop), Walk J n G Y ∧ (∀ H1, Ex H H1 → G H1) ∧ ∀ H1, Ex H H1 → ∀ R : It → Hp → Prop, (∀ H2, Ex H1 H2 → R J H2) → wi σ H1 R
theorem ew_list {te : TE} {a : Addr} {xs : List V} (h : Ev te σ H (.ref a)) (hx : SqL K H a xs) : EvW (iList K te) σ H xs.length (YAt xs) :=
  ⟨Itl K a, fun H1 => SqL K H1 a xs, walk_list, fun H1 e => ex_l e hx, fun H1 e R q => h H1 e _ fun H2 e2 => ⟨a, rfl, ⟨xs, ex_l (e.trans e2) hx⟩, q H2 e2⟩⟩
theorem ew_tup {te : TE} {a : Addr} {xs : List V} (h : Ev te σ H (.ref a)) (hx : SqT K H a xs) : EvW (iTup K te) σ H xs.length (YAt xs) :=
  ⟨Itt K a, fun H1 => SqT K H1 a xs, walk_tup, fun H1 e => ex_t e hx, fun H1 e R q => h H1 e _ fun H2 e2 => ⟨a, rfl, ⟨xs, ex_t (e.trans e2) hx⟩, q H2 e2⟩⟩
theorem ew_sq {i : Nat} {a : Addr} {xs : List V} (h : σ[i]? = some (some (.ref a))) (hx : Sq K H a xs) : EvW (iSq K i) σ H xs.length (YAt xs) := by
  rcases hx with hx | hx
  · exact ⟨Itl K a, fun H1 => SqL K H1 a xs, walk_list, fun H1 e => ex_l e hx, fun H1 e R q => ⟨a, h, .inl ⟨⟨xs, ex_l e hx⟩, q H1 (Ex.refl H1)⟩⟩⟩
  · exact ⟨Itt K a, fun H1 => SqT K H1 a xs, walk_tup, fun H1 e => ex_t e hx, fun H1 e R q => ⟨a, h, .inr ⟨⟨xs, ex_t e hx⟩, q H1 (Ex.refl H1)⟩⟩⟩
theorem ew_str {te : TE} {z : Str} (h : Ev te σ H (.str z)) : EvW (iStr te) σ H z.cps.size (fun i H v H' => H' = H ∧ ∃ c, z.cps[i]? = some c ∧ v = .str ⟨#[c]⟩) :=
  ⟨Its z, fun _ => True, walk_str, fun _ _ => trivial, fun H1 e R q => h H1 e _ fun H2 e2 => ⟨z, rfl, q H2 e2⟩⟩
theorem ew_rng1 {ta : TA} {n : Int} (h : EvA ta σ H [.int n]) (hn : 0 ≤ n ∧ n ≤ 100000) : EvW (iRng1 ta) σ H n.toNat (YFn fun i => .int (0 + (i : Int))) :=
  ⟨Itr 0 n.toNat, fun _ => True, walk_range, fun _ _ => trivial, fun H1 e R q => h H1 e _ fun H2 e2 => ⟨n, rfl, by omega, by omega, q H2 e2⟩⟩

/-- the turns that give -/
def ixs (n : Nat) (f : Nat → Bool) : List Nat := (List.range n).filter f
theorem ixs_yes {n : Nat} {f : Nat → Bool} (h : f n = true) : ixs (n + 1) f = ixs n f ++ [n] := by
  unfold ixs
  rw [List.range_succ, List.filter_append, List.filter_cons, if_pos h]
  rfl
theorem ixs_no {n : Nat} {f : Nat → Bool} (h : f n = false) : ixs (n + 1) f = ixs n f := by
  unfold ixs
  rw [List.range_succ, List.filter_append, List.filter_cons, if_neg (by rw [h]; decide)]
  show _ ++ [] = _
  rw [List.append_nil]
theorem ixs_len (n : Nat) (f : Nat → Bool) : (ixs n f).length ≤ n := by
  unfold ixs
  have h := List.length_filter_le f (List.range n)
  rw [List.length_range] at h
  exact h
theorem ixs_all (n : Nat) : ixs n (fun _ => true) = List.range n := by
  unfold ixs
  exact List.filter_eq_self.mpr fun _ _ => rfl
/-- ys: one for each k of ks, by El -/
def Els (El : Nat → V → Hp → Prop) (ks : List Nat) (ys : List V) (H : Hp) : Prop := ys.length = ks.length ∧ ∀ (j k : Nat) (y : V), ks[j]? = some k → ys[j]? = some y → El k y H
theorem Els.more {El : Nat → V → Hp → Prop} {ks : List Nat} {ys : List V} {k : Nat} {y : V} (h : Els El ks ys H) (hy : El k y H) : Els El (ks ++ [k]) (ys ++ [y]) H := by
  obtain ⟨h1, h2⟩ := h
  refine ⟨by rw [List.length_append, List.length_append, h1]; rfl, fun j k' y' e1 e2 => ?_⟩
  by_cases hj : j < ks.length
  · rw [List.getElem?_append_left hj] at e1
    rw [List.getElem?_append_left (by omega)] at e2
    exact h2 j k' y' e1 e2
  · rw [List.getElem?_append_right (by omega)] at e1
    rw [List.getElem?_append_right (by omega), h1] at e2
    cases hz : j - ks.length with
    | zero =>
      rw [hz] at e1 e2
      have a1 : k = k' := Option.some.inj e1
      have a2 : y = y' := Option.some.inj e2
      subst a1 a2
      exact hy
    | succ m =>
      rw [hz] at e1
      simp at e1
theorem Els.mono {El : Nat → V → Hp → Prop} {ks : List Nat} {ys : List V} {H' : Hp} (h : Els El ks ys H) (hm : ∀ k y, El k y H → El k y H') : Els El ks ys H' := ⟨h.1, fun j k y a b => hm k y (h.2 j k y a b)⟩
/-- a new list whose items are told by El -/
def EvN (te : TE) (σ : L2.St) (H : Hp) (ks : List Nat) (El : Nat → V → Hp → Prop) : Prop := ∀ H1, Ex H H1 → ∀ Q : VK, (∀ p ys H2, H1 p = none → Ex H1 H2 → H2 p = some (.lst ys) → (∀ H3, Kp H H1 H2 H3 → Els El ks ys H3) → Q (.ref p) H2) → te σ H1 Q
theorem EvN.mono {te : TE} {ks : List Nat} {El : Nat → V → Hp → Prop} {H' : Hp} (e : Ex H H') (h : EvN te σ H ks El) : EvN te σ H' ks El := fun H1 a Q q => h H1 (e.trans a) Q fun p ys H2 n e2 h2 z => q p ys H2 n e2 h2 fun H3 k => z H3 ⟨e.trans k.old, k.new⟩
/-- [elt for target in .. if test] -/
theorem en_lc {wi : TI} {g : L2.TG} {tt : TT} {te : TE} {vs : List Nat} {n : Nat} {Y : Nat → Hp → V → Hp → Prop} {El : Nat → V → Hp → Prop} (f : Nat → Bool) (hw : EvW wi σ H n Y) (hn : n ≤ 90000)
    (turn : ∀ i x H1 H2, i < n → Ex H H1 → Y i H1 x H2 → Ex H1 H2 ∧ ∀ Q : L2.St → Hp → Prop, (∀ σ2 H3, Ex H2 H3 → wipe σ2 vs = wipe σ vs → EvT tt σ2 H (f i) → (f i = true → ∀ H4, Ex H3 H4 → ∀ Q : VK, (∀ v H5, Ex H4 H5 → (∀ H6, Kp H H1 H5 H6 → El i v H6) → Q v H5) → te σ2 H4 Q) → Q σ2 H3) → g x (wipe σ vs) H2 Q) : EvN (tLc wi g tt te vs) σ H (ixs n f) El := fun H0 e0 Q q => by
  obtain ⟨J, G, w, hG, hwi⟩ := hw
  refine hwi H0 e0 _ fun H1 e1 D hD => ?_
  refine lc_it w (fun i H' => Ex H1 H' ∧ ∃ ys, H' D = some (.lst ys) ∧ ys.length = (ixs i f).length ∧ ∀ H3, Ex H H3 → (∀ a o, a ≠ D → H1 a = none → H' a = some o → H3 a = some o) → Els El (ixs i f) ys H3) ⟨Ex.new hD, [], upd_same, rfl, fun H3 _ _ => ⟨rfl, fun j k y z => by simp [ixs] at z⟩⟩
    (fun i H' _ p => hG H' ((e0.trans e1).trans p.1)) (fun i x H' H2 hi p y => ?_) fun H' p => ?_
  · obtain ⟨p1, ys, p2, p4, p3⟩ := p
    obtain ⟨t1, t2⟩ := turn i x H' H2 hi ((e0.trans e1).trans p1) y
    refine t2 _ fun σ2 H3 e3 hwp ht hte => ⟨hwp, ?_⟩
    have d3 : H3 D = some (.lst ys) := e3 D _ (t1 D _ p2)
    refine ht H3 ((((e0.trans e1).trans p1).trans t1).trans e3) _ fun H4 e4 => ?_
    have d4 : H4 D = some (.lst ys) := e4 D _ d3
    have ex4 : Ex H' H4 := (t1.trans e3).trans e4
    cases hf : f i with
    | true =>
      refine hte hf H4 e4 _ fun y H5 e5 hy => ?_
      have d5 : H5 D = some (.lst ys) := e5 D _ d4
      refine ⟨ys, d5, ?_, Ex.mut (p1.trans (ex4.trans e5)) hD, ys ++ [y], upd_same, ?_, fun H6 e6 k6 => ?_⟩
      · rw [p4]
        exact sz_lt (by have := ixs_len i f; omega)
      · rw [ixs_yes hf, List.length_append, List.length_append, p4]
        rfl
      · rw [ixs_yes hf]
        have old := p3 H6 e6 fun a o ha n h => k6 a o ha n (by rw [upd_ne ha]; exact (ex4.trans e5) a o h)
        refine Els.more old (hy H6 ⟨e6, fun a o n h => ?_⟩)
        have ha : a ≠ D := fun z => by rw [z, p2] at n; cases n
        exact k6 a o ha (fresh_back p1 n) (by rw [upd_ne ha]; exact h)
    | false =>
      refine ⟨p1.trans ex4, ys, d4, by rw [ixs_no hf]; exact p4, fun H6 e6 k6 => ?_⟩
      rw [ixs_no hf]
      exact p3 H6 e6 fun a o ha n h => k6 a o ha n (ex4 a o h)
  · obtain ⟨p1, ys, p2, _, p3⟩ := p
    refine q D ys H' (fresh_back e1 hD) (e1.trans p1) p2 fun H3 k => p3 H3 k.old fun a o _ n h => k.new a o (fresh_back e1 n) h
/-- the same, the target a name, no tuple on the way -/
theorem en_lcN {wi : TI} {tt : TT} {te : TE} {vs : List Nat} {j n : Nat} {Y : Nat → Hp → V → Hp → Prop} {El : Nat → V → Hp → Prop} (f : Nat → Bool) (hw : EvW wi σ H n Y) (hn : n ≤ 90000) (hY : ∀ i H1 x H2, Y i H1 x H2 → H2 = H1) (hwp : ∀ x, wipe ((wipe σ vs).set j (some x)) vs = wipe σ vs)
    (ht : ∀ i x H1, i < n → Ex H H1 → Y i H1 x H1 → EvT tt ((wipe σ vs).set j (some x)) H (f i)) (he : ∀ i x H1, i < n → Ex H H1 → Y i H1 x H1 → f i = true → EvP te ((wipe σ vs).set j (some x)) H (El i)) : EvN (tLc wi (gName j) tt te vs) σ H (ixs n f) El :=
  en_lc f hw hn fun i x H1 H2 hi e y => by
    have e2 := hY i H1 x H2 y
    subst e2
    exact ⟨Ex.refl _, fun Q q => q _ _ (Ex.refl _) (hwp x) (ht i x _ hi e y) fun hf H4 e4 Q2 q2 => he i x _ hi e y hf H4 (e.trans e4) Q2 fun v H5 e5 p => q2 v H5 e5 fun H6 k => p H6 (k.part e4 (Ex.refl _))⟩
end

/-! ### promises -/
/-- a value of which P holds, what stood stands -/
def RetP (P : V → Hp → Prop) (H : Hp) (Q : VK) : Prop := ∀ v H2, Ex H H2 → (∀ H3, (∀ a o, H a = none → H2 a = some o → H3 a = some o) → P v H3) → Q v H2
/-- a new list of items told by El -/
def RetN (ks : List Nat) (El : Nat → V → Hp → Prop) (H : Hp) (Q : VK) : Prop := ∀ p ys H2, H p = none → Ex H H2 → H2 p = some (.lst ys) → (∀ H3, (∀ a o, H a = none → H2 a = some o → H3 a = some o) → Els El ks ys H3) → Q (.ref p) H2
theorem RetV.call {sp : Sp} {vs : List V} {H : Hp} {z : V} (h : ∀ H1, Ex H H1 → ∀ Q E, RetV z H1 Q → sp vs H1 Q E) : SpV sp vs H z := fun H1 e Q q E => h H1 e Q E q
theorem RetL.call {sp : Sp} {vs xs : List V} {H : Hp} (h : ∀ H1, Ex H H1 → ∀ Q E, RetL xs H1 Q → sp vs H1 Q E) : SpL sp vs H xs := fun H1 e Q q E => h H1 e Q E q
section
variable {K : PySem.W.Frag} {σ : L2.St} {H : Hp}
theorem en_call {sp : Sp} {dvs vs : List V} {E : XK} {ta : TA} {ks : List Nat} {El : Nat → V → Hp → Prop} (h : EvA ta σ H vs) (hs : ∀ H1, Ex H H1 → ∀ Q E, RetN ks El H1 Q → sp (vs ++ dvs) H1 Q E) : EvN (tCall sp dvs E ta) σ H ks El := fun H1 e Q q =>
  h H1 e _ fun H2 e2 => hs H2 (e.trans e2) Q E fun p ys H3 n e3 h3 z => q p ys H3 (fresh_back e2 n) (e2.trans e3) h3 fun H4 k => z H4 fun a o na ha => k.new a o (fresh_back e2 na) ha
theorem evp_call {sp : Sp} {dvs vs : List V} {E : XK} {ta : TA} {P : V → Hp → Prop} (h : EvA ta σ H vs) (hs : ∀ H1, Ex H H1 → ∀ Q E, RetP P H1 Q → sp (vs ++ dvs) H1 Q E) : EvP (tCall sp dvs E ta) σ H P := fun H1 e Q q =>
  h H1 e _ fun H2 e2 => hs H2 (e.trans e2) Q E fun v H3 e3 z => q v H3 (e2.trans e3) fun H4 k => z H4 fun a o na ha => k.new a o (fresh_back e2 na) ha
/-- a list of items, told by their values, is a list of these -/
theorem els_vals {v : Nat → V} {ks : List Nat} {ys : List V} (h : Els (fun k y _ => y = v k) ks ys H) : ys = ks.map v := by
  obtain ⟨h1, h2⟩ := h
  apply List.ext_getElem?
  intro j
  by_cases hj : j < ks.length
  · have e1 : ks[j]? = some ks[j] := List.getElem?_eq_getElem hj
    have e2 : ys[j]? = some ys[j] := List.getElem?_eq_getElem (by omega)
    rw [e2, List.getElem?_map, e1, h2 j _ _ e1 e2]
    rfl
  · rw [List.getElem?_eq_none (by omega), List.getElem?_eq_none (by rw [List.length_map]; omega)]
/-- .. as a list that is known -/
theorem EvN.vals {te : TE} {v : Nat → V} {ks : List Nat} (h : EvN te σ H ks (fun k y _ => y = v k)) : EvL te σ H (ks.map v) := fun H1 e Q q => h H1 e Q fun p ys H2 n e2 h2 z => q p H2 n e2 (by
  rw [h2, els_vals (z H2 (Kp.self (e.trans e2)))])
theorem evp_v {te : TE} {v : V} (h : Ev te σ H v) : EvP te σ H (fun y _ => y = v) := EvP.of h fun _ _ => rfl
end
end Cp

namespace Cp
open PySem PySem.Spec PyProof.Rows L2 Evl
def top (i : Nat) : Stmt := PySem.Challenge.pw_copytoll_k60_space_of_a_shelf.main.body.getD i (.Pass ⟨0, 0, 0, 0⟩)
abbrev FnP (K : PySem.W.Frag) (x : Str) (st : Stmt) (dvs : List V) (f : Addr) (fd : FuncData) : Prop := FunD K x x (defArgs st) (defBody st) (defScope st) dvs [] f fd
abbrev MeP (K : PySem.W.Frag) (x q : Str) (st : Stmt) (f : Addr) (fd : FuncData) : Prop := FunD K x q (defArgs st) (defBody st) (defScope st) [] [] f fd
abbrev sBodies : Stmt := top 35
abbrev sCount : Stmt := top 36
abbrev sNest : Stmt := top 37
def spBodies (K : PySem.W.Frag) : Sp := fun vs H Q _ => ∃ t w rest, vs = [.ref t] ∧ FlatS K H t w rest ∧ RetL [] H Q
def spCount (K : PySem.W.Frag) : Sp := fun vs H Q _ => ∃ a xs, vs = [.ref a] ∧ FlatB K H a xs ∧ RetV (.int (xs.length : Int)) H Q
def spNest (K : PySem.W.Frag) : Sp := fun vs H Q _ => ∃ a xs, vs = [.ref a] ∧ FlatB K H a xs ∧ RetV (.int 1) H Q
section
variable {K : PySem.W.Frag} {σ : L2.St} {H : Hp}
theorem et_yes : EvT tYes σ H true := fun H1 _ _ q => q H1 (Ex.refl H1)
theorem ev_sum {te : TE} {ns : List Int} (h : EvL te σ H (ns.map V.int)) : Ev (tCB (rSum K) (tCons te tNil)) σ H (.int ns.sum) := fun H1 e Q q =>
  h H1 e _ fun p H2 _ e2 h2 => ⟨p, ns, rfl, sq_of h2, q H2 e2⟩
theorem ev_sum0 {te : TE} (h : EvL te σ H []) : Ev (tCB (rSum K) (tCons te tNil)) σ H (.int 0) := ev_sum (ns := []) h
theorem sum_ones {l : List Nat} : V.int ((l.map fun _ => (1 : Int)).sum) = .int (l.length : Int) := by
  congr 1
  induction l with
  | nil => rfl
  | cons a l ih =>
    rw [List.map_cons, List.sum_cons, ih, List.length_cons]
    omega
/-- a comprehension over an empty new list -/
theorem el_lc0 {tl te : TE} {g : L2.TG} {tt : TT} {vs : List Nat} (h : EvL tl σ H []) : EvL (tLc (iList K tl) g tt te vs) σ H [] := fun H0 e Q q =>
  h H0 e _ fun a H1 ha e1 hx => ⟨a, rfl, ⟨[], sq_of hx⟩, fun Dl hD => lc_list (xs := []) (fun i H' => Ex H1 H' ∧ H' Dl = some (.lst [])) ⟨Ex.new hD, upd_same⟩ (fun i H' _ p => sq_of (p.1 a _ hx)) (fun i x H' hi p => by simp at hi) fun H' p => q Dl H' (fresh_back e1 hD) (e1.trans p.1) p.2⟩
/-- [x for a in xs for b in .. ] whose inner lists are all empty -/
theorem el_lc20 {wi : TI} {g1 : L2.TG} {tt1 : TT} {te tl : TE} {vs vs1 : List Nat} {j n : Nat} {Y : Nat → Hp → V → Hp → Prop} (hw : EvW wi σ H n Y) (hY : ∀ i H1 x H2, Y i H1 x H2 → H2 = H1) (hwp : ∀ x, wipe ((wipe σ vs).set j (some x)) vs = wipe σ vs)
    (hi : ∀ i x H1, i < n → Ex H H1 → Y i H1 x H1 → EvL tl ((wipe σ vs).set j (some x)) H1 []) : EvL (tLc2 wi (gName j) tYes (iList K tl) g1 tt1 te vs vs1) σ H [] := fun H0 e0 Q q => by
  obtain ⟨J, G, w, hG, hwi⟩ := hw
  refine hwi H0 e0 _ fun H1 e1 D hD => ?_
  refine ⟨fun i m H' => m = n - i ∧ i ≤ n ∧ Ex H1 H' ∧ H' D = some (.lst []), ⟨n, by simp, Nat.zero_le _, Ex.new hD, upd_same⟩, ?_⟩
  rintro i m H' ⟨rfl, hin, p1, p2⟩
  have g := hG H' ((e0.trans e1).trans p1)
  by_cases hlt : i < n
  · refine .inr ⟨w.goes i H' hlt g, fun H2 => Ex H1 H2 ∧ H2 D = some (.lst []), fun H2 z => ⟨n - (i + 1), by omega, rfl, hlt, z.1, z.2⟩, fun x H2 y => ?_⟩
    have y := w.yields i H' x H2 hlt g y
    have e2 := hY i H' x H2 y
    subst e2
    refine ⟨hwp x, ?_⟩
    refine hi i x H2 hlt ((e0.trans e1).trans p1) y H2 (Ex.refl _) _ fun p H3 hp e3 h3 => ⟨p, rfl, ⟨[], sq_of h3⟩, fun a b H4 => a = 0 ∧ Ex H3 H4, ⟨0, rfl, Ex.refl _⟩, ?_⟩
    rintro a b H4 ⟨rfl, e4⟩
    exact .inl ⟨⟨[], sq_of (e4 p _ h3), Nat.le_refl _⟩, p1.trans (e3.trans e4), e4 D _ (e3 D _ p2)⟩
  · have e : i = n := by omega
    subst e
    exact .inl ⟨w.stops H' g, q D H' (fresh_back e1 hD) (e1.trans p1) p2⟩
theorem el_cat {ta tb : TE} {xs ys : List V} (ha : EvL ta σ H xs) (hb : EvL tb σ H ys) (hz : xs.length + ys.length ≤ 100000) : EvL (tOp rCat ta tb) σ H (xs ++ ys) := fun H1 e Q k =>
  ha H1 e _ fun p H2 np e2 hp => hb H2 (e.trans e2) _ fun q H3 nq e3 hq => ⟨p, q, xs, ys, rfl, rfl, e3 p _ hp, hq, sz_of hz, fun r hr => k r _ (fresh_back (e2.trans e3) hr) ((e2.trans e3).trans (Ex.new hr)) upd_same⟩
theorem ev_max1 {te : TE} {n : Int} (h : EvL te σ H [.int n]) : Ev (tCB (rMax K) (tCons te tNil)) σ H (.int n) := fun H1 e Q q =>
  h H1 e _ fun p H2 _ e2 h2 => ⟨p, [n], rfl, sq_of h2, Nat.one_pos, fun m hm _ => by
    rw [List.mem_singleton.mp hm]
    exact q H2 e2⟩
end
section
variable {P : Program} {w : World} {K : PySem.W.Frag} {mg : Str → Option Value} {base : Heap} {f : Addr} {fd : FuncData}
theorem bodies_call {K : PySem.W.Frag} {H : Hp} {t : Addr} {w : Str} {r : List V} (h : FlatS K H t w r) : SpL (spBodies K) [.ref t] H [] := RetL.call fun H1 e Q E q => ⟨t, w, r, rfl, h.same e, q⟩
theorem sc_bodies : FnScope ["statement"] ["statement"] (defScope sBodies) := ⟨rfl, rfl, rfl, by decide +kernel, rfl, by decide +kernel, by decide +kernel⟩
theorem ok_bodies (F : FnP K "bodies_of" sBodies [] f fd) (gL : mg "len" = none) : FnOk P w K mg base CX0 1 f fd ["statement"] (spBodies K) := by
  refine F.ok sc_bodies (fun vs H Q E h => ?_) (fun cdv A outer s H vs Q E hr h => ?_)
  · obtain ⟨t, w, r, rfl, _⟩ := h
    rfl
  · obtain ⟨t, w, r, rfl, ⟨hs, h1, h2, hl⟩, k⟩ := h
    refine ⟨_, pss_cons (ps_if (PW.pt (pw_and (pt_cmpR op_eq (pe_callB call_len_seq (by rfl) gL PySem.boot_len (pa_cons (pv 0) pa_nil)) pe_int (nomark _)) (pw_and1 (pt_cmpR op_eq (pe_ix ix_tup (pv 0) pe_int (fun _ _ => rfl)) pe_str (nomark _))))) pss_no pss_nil)
      (pss_cons (ps_if (PW.pt (pw_and (pt_cmpR op_eq (pe_callB call_len_seq (by rfl) gL PySem.boot_len (pa_cons (pv 0) pa_nil)) pe_int (nomark _)) (pw_and1 (pt_cmpR op_eq (pe_ix ix_tup (pv 0) pe_int (fun _ _ => rfl)) pe_str (nomark _))))) pss_no pss_nil)
      (pss_one (ps_ret (pe_lst pa_nil)))), ?_⟩
    have nf : ∀ b : Bool, (b && decide (V.str w = V.str "if")) = true → False := fun b z => h1 (V.str.inj (of_decide_eq_true (Bool.and_eq_true_iff.mp z).2))
    have nw : ∀ b : Bool, (b && decide (V.str w = V.str "while")) = true → False := fun b z => h2 (V.str.inj (of_decide_eq_true (Bool.and_eq_true_iff.mp z).2))
    refine q_when (et_and (et_eq (ev_lenQ (ev_var rfl) (.inr hs)) ev_c rfl) fun _ => et_eq (ev_ixT (ev_var rfl) ev_c hs (at_of (j := 0) rfl rfl)) ev_c rfl) (fun hb => (nf _ hb).elim) fun _ H1 e1 => ?_
    refine q_when (et_and (et_eq (ev_lenQ (ev_var rfl) (.inr (Same.seqT e1 hs))) ev_c rfl) fun _ => et_eq (ev_ixT (ev_var rfl) ev_c (Same.seqT e1 hs) (at_of (j := 0) rfl rfl)) ev_c rfl) (fun hb => (nw _ hb).elim) fun _ H2 e2 => ?_
    exact s_retL (el_lst ea_nil (by decide)) fun p H3 hp e3 h3 => k.go (e1.trans e2) hp e3 h3
theorem sc_count : FnScope ["body", "statement", "inner"] ["body"] (defScope sCount) := ⟨rfl, rfl, rfl, by decide +kernel, rfl, by decide +kernel, by decide +kernel⟩
def t_countE (K : PySem.W.Frag) : TE := tOp (rI0 fun i j => .int (i + j)) (tC (.int 1)) (tCB (rSum K) (tCons (tLc (iList K (tCall (spBodies K) [] E0 (tCons (tVar 1) tNil))) (gName 2) tYes (fun _ _ _ => False) [2]) tNil))
theorem ok_count {fB : Addr} {fdB : FuncData} (F : FnP K "count_in" sCount [] f fd) (GB : FnOk P w K mg base CX0 1 fB fdB ["statement"] (spBodies K)) (gB : mg "bodies_of" = some (.ref fB)) (kB : PySem.W.keepIn K (.ref fB) = true) (bB : Binds K fdB ["statement"] []) (gS : mg "sum" = none) :
    FnOk P w K mg base CX0 2 f fd ["body"] (spCount K) := by
  refine F.ok sc_count (fun vs H Q E h => ?_) (fun cdv A outer s H vs Q E hr h => ?_)
  · obtain ⟨a, xs, rfl, _⟩ := h
    rfl
  · obtain ⟨a, xs, rfl, hB, k⟩ := h
    refine ⟨_, pss_one (ps_ret (pe_callB (cr_sum rfl) (by rfl) gS boot_sum (pa_cons (pe_lc (own := [("statement", 1)]) (g := gName 1) (tt := tYes) (te := t_countE K) rfl sc_count.nd (pi_sq 0) (blkOk_by (by kernel_rfl)) (fun _ _ _ _ _ => pg_name (i := 1) sc_count.nd rfl (Or.inl rfl)) (fun _ _ _ _ _ => pts_nil) (fun _ _ _ _ _ => ?_)) pa_nil))), ?_⟩
    · refine pe_op op_add pe_int ?_
      refine pe_callB (r := rSum K) (cr_sum rfl) (by rfl) gS boot_sum (pa_cons ?_ pa_nil)
      exact pe_lc (own := [("inner", 2)]) (g := gName 2) (tt := tYes) rfl sc_count.nd (pi_list (by exact pe_call GB hr (by rfl) gB kB bB .nil pass0 (by exact pa_cons (pv 1) pa_nil))) (blkOk_by (by kernel_rfl)) (fun _ _ _ _ _ => pg_name (i := 2) sc_count.nd rfl (Or.inl rfl)) (fun _ _ _ _ _ => pts_nil) (fun _ _ _ _ _ => pe_no)
    have in0 : ∀ σ' H', Ex H H' → ∀ x, σ'[1]? = some (some x) → Flat K H x → Ev (t_countE K) σ' H' (.int 1) := by
      intro σ' H' e x hx hf
      obtain ⟨t, w, r, rfl, hf⟩ := hf
      refine ev_op (x := .int 1) (y := .int 0) ev_c (ev_sum0 (el_lc0 (el_call (ea_cons (ev_var hx) ea_nil) (bodies_call (hf.same e))))) rv_I0
    have el : EvN (tLc (iSq K 0) (gName 1) tYes (t_countE K) [1]) (start ["body", "statement", "inner"] [.ref a]) H (ixs xs.length fun _ => true) (fun k y _ => y = .int 1) := by
      refine en_lcN (fun _ => true) (ew_sq rfl hB.1) (by have := hB.2.1; omega) (fun i H1 x H2 y => y.1) (fun x => rfl) (fun i x H1 hi e y => et_yes) fun i x H1 hi e y _ => ?_
      exact evp_v (in0 _ _ (Ex.refl _) x rfl (hB.2.2 x (List.mem_of_getElem? y.2)))
    refine s_ret (ev_is (ev_sum (ns := (ixs xs.length fun _ => true).map fun _ => (1 : Int)) (by
      have h2 := EvN.vals el
      rw [List.map_map]
      exact h2)) (by rw [ixs_all, sum_ones, List.length_range])) fun H1 e1 => k.go e1
theorem sc_nest : FnScope ["body", "statement", "inner"] ["body"] (defScope sNest) := ⟨rfl, rfl, rfl, by decide +kernel, rfl, by decide +kernel, by decide +kernel⟩
theorem ok_nest {fB : Addr} {fdB : FuncData} (F : FnP K "nesting_of" sNest [] f fd) (GB : FnOk P w K mg base CX0 1 fB fdB ["statement"] (spBodies K)) (gB : mg "bodies_of" = some (.ref fB)) (kB : PySem.W.keepIn K (.ref fB) = true) (bB : Binds K fdB ["statement"] []) (gS : mg "max" = none) :
    FnOk P w K mg base CX0 2 f fd ["body"] (spNest K) := by
  refine F.ok sc_nest (fun vs H Q E h => ?_) (fun cdv A outer s H vs Q E hr h => ?_)
  · obtain ⟨a, xs, rfl, _⟩ := h
    rfl
  · obtain ⟨a, xs, rfl, hB, k⟩ := h
    refine ⟨_, pss_one (ps_ret (pe_op op_add pe_int (pe_callB (r := rMax K) (cr_max rfl) (by rfl) gS boot_max (pa_cons (pe_op op_cat (pe_lst (pa_cons pe_int pa_nil)) (pe_lc2 (own := [("statement", 1), ("inner", 2)]) (vs1 := [2]) (g := gName 1) (g1 := gName 2) (tt := tYes) (tt1 := tYes) (wi1 := iList K (tCall (spBodies K) [] E0 (tCons (tVar 1) tNil))) rfl sc_nest.nd (pi_sq 0) (blkOk_by (by kernel_rfl)) (by decide)
      (fun _ _ _ _ _ => pg_name (i := 1) sc_nest.nd rfl (Or.inl rfl)) (fun _ _ _ _ _ => pts_nil) (fun _ _ _ _ _ => ?_) (fun _ _ _ _ _ => pg_name (i := 2) sc_nest.nd rfl (Or.inl rfl)) (fun _ _ _ _ _ => pts_nil) (fun _ _ _ _ _ => pe_no))) pa_nil)))), ?_⟩
    · exact pi_list (by exact pe_call GB hr (by rfl) gB kB bB .nil pass0 (by exact pa_cons (pv 1) pa_nil))
    refine s_ret (ev_op (x := .int 1) (y := .int 0) ev_c (ev_max1 (el_cat (ys := []) (el_lst (ea_cons ev_c ea_nil) (by decide)) (el_lc20 (ew_sq rfl hB.1) (fun i H1 x H2 y => y.1) (fun x => rfl) fun i x H1 hi e y => ?_) (by decide))) rv_I0) fun H1 e1 => k.go e1
    obtain ⟨t, w, r, rfl, hf⟩ := hB.2.2 x (List.mem_of_getElem? y.2)
    exact el_call (ea_cons (ev_var rfl) ea_nil) (bodies_call (hf.same e))
end
end Cp

namespace Cp
open PySem PySem.Spec PyProof.Rows L2 Evl GF
abbrev sNum : Stmt := top 38
def Nnum : List Str := ["body", "first", "at", "statement", "inner"]
theorem gsc_num : GScope Nnum ["body", "first"] (defScope sNum) := ⟨rfl, rfl, rfl, by decide +kernel, rfl, by decide +kernel, by decide +kernel⟩
theorem gnc_num : ∀ y ∈ (defScope sNum).names, y.2 ≠ .cell := by decide +kernel
def tGno : GW → TY := fun _ _ _ _ _ _ _ => False
theorem g1_no {G : GE} {st : Stmt} : GS1 G st tGno := ⟨fun _ _ _ _ _ _ _ _ _ _ _ _ _ _ _ _ _ _ _ _ _ _ _ h => h.elim⟩
theorem gs_no {G : GE} {st : List Stmt} : GSs1 G st tGno := ⟨fun _ _ _ _ _ _ _ _ _ _ _ _ _ _ _ _ _ _ _ _ _ _ _ h => h.elim⟩
def tNum (K : PySem.W.Frag) : GW → TY := tSq (tPl (tAsg (tVar 1) (gName 2))) (tSq (tFr (iSq K 0) (gName 3) (tSq (tYd (tTup (tCons (tVar 2) (tCons (tVar 3) tNil)))) (tSq (tPl (tAug 2 (tC (.int 1)) (ipI fun i j => i + j))) (tSq (tFr (iList K (tCall (spBodies K) [] E0 (tCons (tVar 3) tNil))) (gName 4) tGno) tN1)))) tN1)
section
variable {P : Program} {w : World} {K : PySem.W.Frag} {mg : Str → Option Value} {base : Heap}
theorem gb_num {X : Cx} {k : Nat} {f fB : Addr} {fdB : FuncData} {qual : Str} (GB : FnOk X.prog X.w X.K X.mg X.base CX0 1 fB fdB ["statement"] (spBodies X.K)) (gB : X.mg "bodies_of" = some (.ref fB)) (kB : PySem.W.keepIn X.K (.ref fB) = true) (bB : Binds X.K fdB ["statement"] []) :
    ∀ cdv gl own, GSt (ge X Nnum qual (defScope sNum) f cdv gl own) → Room 2 ((ge X Nnum qual (defScope sNum) f cdv gl own).Aw.deeper (ge X Nnum qual (defScope sNum) f cdv gl own).env) → GSs1 (ge X Nnum qual (defScope sNum) f cdv gl own) (defBody sNum) (tNum X.K) := by
  intro cdv gl own S hr
  refine g1_cons (g1_plain fun sr Hr => ps_asg (pv 1) (pg_name (i := 2) gsc_num.nd rfl (Or.inl rfl)) rfl) (g1_cons (g1_for S (fun sr Hr => pi_sq 0) (fun sr Hr => pg_name (i := 3) gsc_num.nd rfl (Or.inl rfl)) ?_) g1_nil)
  refine g1_cons (g1_yield S fun sr Hr => pe_tup (pa_cons (pv 2) (pa_cons (pv 3) pa_nil))) (g1_cons (g1_plain fun sr Hr => ps_aug gsc_num.nd (i := 2) rfl (Or.inl rfl) pe_int ip_add (Or.inl rfl)) (g1_cons (g1_for S (fun sr Hr => ?_) (fun sr Hr => pg_name (i := 4) gsc_num.nd rfl (Or.inl rfl)) gs_no) g1_nil))
  exact pi_list (pe_call GB (hr.mono (by decide)) (by rfl) gB kB bB .nil pass0 (pa_cons (pv 3) pa_nil))
end
/-- what is wanted of numbered -/
def UN (H0 : Hp) (xs : List V) : GW where
  Gd := fun H => Ex H0 H
  yl := fun Hr ys x H' => Ex Hr H' ∧ ∃ p y, x = .ref p ∧ xs[ys.length]? = some y ∧ H' p = some (.tup [.int (ys.length : Nat), y])
  fin := fun Hr ys H' => Ex Hr H' ∧ ys.length = xs.length
theorem num_run {K : PySem.W.Frag} {H0 : Hp} {a : Addr} {xs : List V} (hB : FlatB K H0 a xs) : ∀ H2, (UN H0 xs).Gd H2 → tNum K (UN H0 xs) (gEnd (UN H0 xs)) H2 [] xs.length (start Nnum [.ref a, .int 0]) H2 := by
  intro H2 g2
  refine ⟨.int 0, rfl, ?_⟩
  have body : ∀ (J : It) (σ0 : L2.St), (∀ i H, i < xs.length → Ex H0 H → J.go i H) → (∀ H, Ex H0 H → J.stop xs.length H) → (∀ i H x H', i < xs.length → Ex H0 H → J.yld i H x H' → YAt xs i H x H') → σ0[0]? = some (some (.ref a)) → σ0[2]? = some (some (.int 0)) → σ0.length = 5 → 
      ∃ W : Nat → Nat → Hp → List V → L2.St → Hp → Prop, (∃ m, W 0 m H2 [] σ0 H2) ∧ ∀ i m Hr ys σ H, W i m Hr ys σ H →
      (J.stop i H ∧ tN1 (UN H0 xs) (gEnd (UN H0 xs)) Hr ys xs.length σ H) ∨ (J.go i H ∧ ∃ N : Hp → List V → L2.St → Hp → Prop, (∀ Hr' ys' σ' H', N Hr' ys' σ' H' → ∃ m', m' < m ∧ W (i + 1) m' Hr' ys' σ' H') ∧
        ∀ x H', J.yld i H x H' → gName 3 x σ H' fun σ2 H2 => (tSq (tYd (tTup (tCons (tVar 2) (tCons (tVar 3) tNil)))) (tSq (tPl (tAug 2 (tC (.int 1)) (ipI fun i j => i + j))) (tSq (tFr (iList K (tCall (spBodies K) [] E0 (tCons (tVar 3) tNil))) (gName 4) tGno) tN1))) (UN H0 xs) { nx := N, ct := N, bk := fun _ _ _ _ => False } Hr ys xs.length σ2 H2) := by
    intro J σ0 hgo hst hy z0 z2 zl
    refine ⟨fun i m Hr ys σ H => m = xs.length - i ∧ i = ys.length ∧ i ≤ xs.length ∧ σ[0]? = some (some (.ref a)) ∧ σ[2]? = some (some (.int (i : Nat))) ∧ σ.length = 5 ∧ Ex Hr H ∧ Ex H0 Hr, ⟨_, rfl, rfl, Nat.zero_le _, z0, z2, zl, Ex.refl _, g2⟩, ?_⟩
    rintro i m Hr ys σ H ⟨rfl, rfl, hi, s0, s2, sl, e, e0⟩
    by_cases hlt : ys.length < xs.length
    · refine .inr ⟨hgo _ H hlt (e0.trans e), fun Hr' ys' σ' H' => ys'.length = ys.length + 1 ∧ σ'[0]? = some (some (.ref a)) ∧ σ'[2]? = some (some (.int ((ys.length + 1 : Nat)))) ∧ σ'.length = 5 ∧ Ex Hr' H' ∧ Ex H0 Hr', ?_, ?_⟩
      · rintro Hr' ys' σ' H' ⟨q1, q2, q3, q4, q5, q6⟩
        exact ⟨_, by omega, rfl, q1.symm, hlt, q2, q3, q4, q5, q6⟩
      · intro x H' y
        obtain ⟨rfl, hx⟩ := hy _ H x H' hlt (e0.trans e) y
        show _ ∧ _
        refine ⟨hlt, ⟨_, by rw [List.getElem?_set_ne (by decide)]; exact s2, _, by rw [List.getElem?_set_self (by omega)], sz_of (n := 2) (by decide), fun p hp => ⟨⟨e.trans (Ex.new hp), p, x, rfl, hx, upd_same⟩, fun H3 g3 => ?_⟩⟩⟩
        refine ⟨.int (ys.length : Nat), by rw [List.getElem?_set_ne (by decide)]; exact s2, ys.length, 1, rfl, rfl, ?_⟩
        obtain ⟨t, wd, r, rfl, hf⟩ := hB.2.2 x (List.mem_of_getElem? hx)
        refine ⟨.ref t, by rw [List.getElem?_set_ne (by decide), List.getElem?_set_self (by omega)], ?_⟩
        refine ⟨t, wd, r, rfl, hf.same g3, fun p4 H4 hp4 e4 h4 => ⟨p4, rfl, ⟨[], sq_of h4⟩, ?_⟩⟩
        refine ⟨fun i m Hr' ys' σ' H' => i = 0 ∧ Ex H3 H' ∧ H' p4 = some (.lst []) ∧ Hr' = H3 ∧ ys' = ys ++ [.ref p] ∧ σ' = (σ.set 3 (some (.ref t))).set 2 (some (.int ((ys.length : Int) + 1))), ⟨0, rfl, e4, h4, rfl, rfl, rfl⟩, ?_⟩
        rintro i m Hr' ys' σ' H' ⟨rfl, q1, q2, rfl, rfl, rfl⟩
        refine .inl ⟨⟨[], sq_of q2, Nat.le_refl _⟩, ?_, ?_, ?_, ?_, q1, g3⟩
        · rw [List.length_append]; rfl
        · rw [List.getElem?_set_ne (by decide), List.getElem?_set_ne (by decide)]
          exact s0
        · rw [List.getElem?_set_self (by rw [List.length_set]; omega)]
          rfl
        · rw [List.length_set, List.length_set]
          exact sl
    · have q : ys.length = xs.length := by omega
      refine .inl ⟨by rw [q]; exact hst H (e0.trans e), e, q⟩
  refine ⟨a, rfl, ?_⟩
  rcases hB.1 with q | q
  · exact .inl ⟨⟨xs, ex_l g2 q⟩, body (Itl K a) _ (fun i H hi e => walk_list.goes i H hi (ex_l e q)) (fun H e => walk_list.stops H (ex_l e q)) (fun i H x H' hi e y => walk_list.yields i H x H' hi (ex_l e q) y) rfl rfl rfl⟩
  · exact .inr ⟨⟨xs, ex_t g2 q⟩, body (Itt K a) _ (fun i H hi e => walk_tup.goes i H hi (ex_t e q)) (fun H e => walk_tup.stops H (ex_t e q)) (fun i H x H' hi e y => walk_tup.yields i H x H' hi (ex_t e q) y) rfl rfl rfl⟩
/-- for .. in numbered(body, 0), the heap's old things standing -/
theorem s_forNum {K : PySem.W.Frag} {σ : L2.St} {H : Hp} {ta : TA} {g : L2.TG} {tb : TS} {D : Ends} {a : Addr} {xs : List V} (ha : EvA ta σ H [.ref a, .int 0]) (hB : FlatB K H a xs) (Pv : Nat → L2.St → Hp → Prop) (h0 : ∀ H1, Ex H H1 → Pv 0 σ H1) (hG : ∀ i σ' H', Pv i σ' H' → Ex H H')
    (hs : ∀ i x σ' H' p H2 (N : L2.St → Hp → Prop), xs[i]? = some x → Pv i σ' H' → Ex H' H2 → H2 p = some (.tup [.int (i : Nat), x]) → (∀ σ3 H3, Pv (i + 1) σ3 H3 → N σ3 H3) → g (.ref p) σ' H2 fun σ2 H3 => tb { D with nx := N, ct := N, bk := D.nx } σ2 H3)
    (hd : ∀ σ' H' H2, Pv xs.length σ' H' → Ex H' H2 → D.nx σ' H2) :
    tForG ta Nnum (tNum K) g tb D σ H := ha H (Ex.refl H) _ fun H1 e1 => ⟨UN H xs, xs.length, num_run hB, fun m ys σ' H' => m = xs.length - ys.length ∧ ys.length ≤ xs.length ∧ Pv ys.length σ' H', ⟨_, rfl, Nat.zero_le _, h0 H1 e1⟩, by
  rintro m ys σ' H' ⟨rfl, hl, pv⟩
  refine ⟨hG _ _ _ pv, ?_, ?_⟩
  · rintro x H2 ⟨e2, p, y, rfl, hy, hp⟩
    have hlt := (List.getElem?_eq_some_iff.mp hy).1
    exact hs ys.length y σ' H' p H2 _ hy pv e2 hp fun σ3 H3 z => ⟨xs.length - (ys ++ [V.ref p]).length, by rw [List.length_append, List.length_singleton]; omega, rfl, by rw [List.length_append, List.length_singleton]; omega, by rw [List.length_append, List.length_singleton]; exact z⟩
  · rintro H2 ⟨e2, hl2⟩
    rw [hl2] at pv
    exact hd σ' H' H2 pv e2⟩
end Cp

namespace Cp
open PySem PySem.Spec PyProof.Rows L2 Evl
/-- the statements of the law's programs: put x.n, copy y from x's mark, call, and the four odd ones -/
inductive Sh where
  | P | M | C (w : Str) | O0 | O1 | O2 | O3
deriving DecidableEq
/-- v is such a statement -/
def IsS (K : PySem.W.Frag) (H : Hp) : Sh → V → Prop
  | .P, v => ∃ t q, v = .ref t ∧ SqT K H t [.str "put", .ref q] ∧ SqT K H q [.str "x", .str "n"]
  | .M, v => ∃ t p q, v = .ref t ∧ SqT K H t [.str "copy", .ref p, .ref q, .bl true] ∧ SqT K H p [.str "y"] ∧ SqT K H q [.str "x"]
  | .C w, v => ∃ t p q r u, v = .ref t ∧ SqT K H t [.str "call", .ref p, .str w, .ref q] ∧ SqT K H p [.str "x"] ∧ SqT K H q [.ref r] ∧ SqT K H r [.ref u, .bl false] ∧ SqT K H u [.str "x"]
  | .O0, v => ∃ t q, v = .ref t ∧ SqT K H t [.str "put", .ref q] ∧ SqT K H q [.str "x"]
  | .O1, v => ∃ t, v = .ref t ∧ SqT K H t [.str "put"]
  | .O2, v => ∃ t q, v = .ref t ∧ SqT K H t [.str "sing", .ref q] ∧ SqT K H q [.str "x"]
  | .O3, v => ∃ t q, v = .ref t ∧ SqT K H t [.str "new", .ref q] ∧ SqT K H q [.str "zz"]
theorem IsS.ex {K : PySem.W.Frag} {H H' : Hp} (e : Ex H H') : ∀ {s : Sh} {v : V}, IsS K H s v → IsS K H' s v
  | .P, _, ⟨t, q, a, b, c⟩ => ⟨t, q, a, ex_t e b, ex_t e c⟩
  | .M, _, ⟨t, p, q, a, b, c, d⟩ => ⟨t, p, q, a, ex_t e b, ex_t e c, ex_t e d⟩
  | .C _, _, ⟨t, p, q, r, u, a, b, c, d, f, g⟩ => ⟨t, p, q, r, u, a, ex_t e b, ex_t e c, ex_t e d, ex_t e f, ex_t e g⟩
  | .O0, _, ⟨t, q, a, b, c⟩ => ⟨t, q, a, ex_t e b, ex_t e c⟩
  | .O1, _, ⟨t, a, b⟩ => ⟨t, a, ex_t e b⟩
  | .O2, _, ⟨t, q, a, b, c⟩ => ⟨t, q, a, ex_t e b, ex_t e c⟩
  | .O3, _, ⟨t, q, a, b, c⟩ => ⟨t, q, a, ex_t e b, ex_t e c⟩
def Sh.word : Sh → Str
  | .P => "put" | .M => "copy" | .C _ => "call" | .O0 => "put" | .O1 => "put" | .O2 => "sing" | .O3 => "new"
theorem IsS.flat {K : PySem.W.Frag} {H : Hp} : ∀ {s : Sh} {v : V}, IsS K H s v → ∃ t r, v = .ref t ∧ FlatS K H t s.word r
  | .P, _, ⟨t, q, a, b, c⟩ => ⟨t, _, a, b, by decide, by decide, by simp⟩
  | .M, _, ⟨t, p, q, a, b, c, d⟩ => ⟨t, _, a, b, by decide, by decide, by simp⟩
  | .C _, _, ⟨t, p, q, r, u, a, b, c, d, f, g⟩ => ⟨t, _, a, b, (show ("call" : Str) ≠ "if" by decide), (show ("call" : Str) ≠ "while" by decide), by simp⟩
  | .O0, _, ⟨t, q, a, b, c⟩ => ⟨t, _, a, b, by decide, by decide, by simp⟩
  | .O1, _, ⟨t, a, b⟩ => ⟨t, _, a, b, by decide, by decide, by simp⟩
  | .O2, _, ⟨t, q, a, b, c⟩ => ⟨t, _, a, b, by decide, by decide, by simp⟩
  | .O3, _, ⟨t, q, a, b, c⟩ => ⟨t, _, a, b, by decide, by decide, by simp⟩
theorem IsS.isFlat {K : PySem.W.Frag} {H : Hp} {s : Sh} {v : V} (h : IsS K H s v) : Flat K H v := let ⟨t, r, e, f⟩ := h.flat; ⟨t, _, r, e, f⟩
/-- a body -/
def IsB (K : PySem.W.Frag) (H : Hp) : List Sh → List V → Prop
  | [], xs => xs = []
  | s :: ss, xs => ∃ v vs, xs = v :: vs ∧ IsS K H s v ∧ IsB K H ss vs
theorem IsB.ex {K : PySem.W.Frag} {H H' : Hp} (e : Ex H H') : ∀ {ss : List Sh} {xs : List V}, IsB K H ss xs → IsB K H' ss xs
  | [], _, h => h
  | _ :: _, _, ⟨v, vs, a, b, c⟩ => ⟨v, vs, a, b.ex e, IsB.ex e c⟩
theorem IsB.len {K : PySem.W.Frag} {H : Hp} : ∀ {ss : List Sh} {xs : List V}, IsB K H ss xs → xs.length = ss.length
  | [], _, h => by rw [h]; rfl
  | _ :: ss, _, ⟨v, vs, a, b, c⟩ => by rw [a, List.length_cons, List.length_cons, IsB.len c]
theorem IsB.at {K : PySem.W.Frag} {H : Hp} : ∀ {ss : List Sh} {xs : List V} {i : Nat} {x : V}, IsB K H ss xs → xs[i]? = some x → ∃ s, ss[i]? = some s ∧ IsS K H s x
  | [], _, _, _, h, e => by rw [h] at e; simp at e
  | s :: ss, _, 0, x, ⟨v, vs, a, b, c⟩, e => by
    rw [a] at e
    have : v = x := Option.some.inj e
    exact ⟨s, rfl, this ▸ b⟩
  | s :: ss, _, i + 1, x, ⟨v, vs, a, b, c⟩, e => by
    rw [a] at e
    exact IsB.at (ss := ss) (i := i) c e
theorem IsB.of {K : PySem.W.Frag} {H : Hp} : ∀ {ss : List Sh} {xs : List V}, xs.length = ss.length → (∀ (i : Nat) s x, ss[i]? = some s → xs[i]? = some x → IsS K H s x) → IsB K H ss xs
  | [], xs, h, _ => List.eq_nil_of_length_eq_zero h
  | s :: ss, [], h, _ => by simp at h
  | s :: ss, x :: xs, h, k => ⟨x, xs, rfl, k 0 s x rfl rfl, IsB.of (by simpa using h) fun i s' x' a b => k (i + 1) s' x' a b⟩
theorem IsB.flat {K : PySem.W.Frag} {H : Hp} {a : Addr} {ss : List Sh} {xs : List V} (h : IsB K H ss xs) (hs : Sq K H a xs) (hl : ss.length ≤ 100) : FlatB K H a xs := ⟨hs, by rw [h.len]; exact hl, fun x hx => by
  obtain ⟨i, hi⟩ := List.mem_iff_getElem?.mp hx
  obtain ⟨s, _, z⟩ := h.at hi
  exact z.isFlat⟩

/-! ### new lists told by a word -/
def EvB (te : TE) (σ : L2.St) (H : Hp) (Pp : List V → Hp → Prop) : Prop := ∀ H1, Ex H H1 → ∀ Q : VK, (∀ p ys H2, H1 p = none → Ex H1 H2 → H2 p = some (.lst ys) → (∀ H3, Kp H H1 H2 H3 → Pp ys H3) → Q (.ref p) H2) → te σ H1 Q
/-- the promise: H0 what the caller knows -/
def RetB (H0 : Hp) (Pp : List V → Hp → Prop) (H : Hp) (Q : VK) : Prop := ∀ p ys H2, H p = none → Ex H H2 → H2 p = some (.lst ys) → (∀ H3, Kp H0 H H2 H3 → Pp ys H3) → Q (.ref p) H2
section
variable {K : PySem.W.Frag} {σ : L2.St} {H : Hp}
theorem EvB.of {te : TE} {xs : List V} {Pp : List V → Hp → Prop} (h : EvL te σ H xs) (hp : ∀ H1, Ex H H1 → Pp xs H1) : EvB te σ H Pp := fun H1 e Q q => h H1 e Q fun p H2 n e2 h2 => q p xs H2 n e2 h2 fun H3 k => hp H3 k.old
theorem EvB.mono {te : TE} {Pp : List V → Hp → Prop} {H' : Hp} (e : Ex H H') (h : EvB te σ H Pp) : EvB te σ H' Pp := fun H1 a Q q => h H1 (e.trans a) Q fun p ys H2 n e2 h2 z => q p ys H2 n e2 h2 fun H3 k => z H3 ⟨e.trans k.old, k.new⟩
theorem eb_call {sp : Sp} {dvs vs : List V} {E : XK} {ta : TA} {Pp : List V → Hp → Prop} (h : EvA ta σ H vs) (hs : ∀ H1, Ex H H1 → ∀ Q E, RetB H Pp H1 Q → sp (vs ++ dvs) H1 Q E) : EvB (tCall sp dvs E ta) σ H Pp := fun H1 e Q q =>
  h H1 e _ fun H2 e2 => hs H2 (e.trans e2) Q E fun p ys H3 n e3 h3 z => q p ys H3 (fresh_back e2 n) (e2.trans e3) h3 fun H4 k => z H4 ⟨k.old, fun a o na ha => k.new a o (fresh_back e2 na) ha⟩
/-- a display of one new tuple -/
theorem eb_tup1 {ta : TA} {vs : List V} (h : EvA ta σ H vs) (hl : vs.length ≤ 100000) : EvB (tLst (tCons (tTup ta) tNil)) σ H (fun ys H3 => ∃ t, ys = [.ref t] ∧ SqT K H3 t vs) := fun H1 e Q q =>
  h H1 e _ fun H2 e2 => ⟨sz_of hl, fun t ht => ⟨sz_of (n := 1) (by decide), fun p hp => q p [.ref t] _ (fresh_back (e2.trans (Ex.new ht)) hp) ((e2.trans (Ex.new ht)).trans (Ex.new hp)) upd_same fun H3 k => ⟨t, rfl, st_of (k.new t _ (fresh_back e2 ht) (by
    rw [upd_ne (ne_of_none upd_same hp), upd_same]))⟩⟩⟩
theorem s_retB {te : TE} {Pp : List V → Hp → Prop} {D : Ends} {H0 He : Hp} {Q : VK} (h : EvB te σ H0 Pp) (e0 : Ex H0 He) (e1 : Ex He H) (k : RetB H0 Pp He Q) (hQ : D.rt = Q) : tRet te D σ H := h H (e0.trans e1) _ fun p ys H2 n e2 h2 z => by
  rw [hQ]
  exact k p ys H2 (fresh_back e1 n) (e1.trans e2) h2 fun H3 kk => z H3 ⟨kk.old, fun a o na ha => kk.new a o (fresh_back e1 na) ha⟩
theorem eb_if {t : TT} {ta tb : TE} {b : Bool} {Pp : List V → Hp → Prop} (h : EvT t σ H b) (h1 : b = true → EvB ta σ H Pp) (h2 : b = false → EvB tb σ H Pp) : EvB (tIf t ta tb) σ H Pp := fun H1 e Q q => h H1 e _ fun H2 e2 => by
  have q' : ∀ p ys H3, H2 p = none → Ex H2 H3 → H3 p = some (.lst ys) → (∀ H4, Kp H H2 H3 H4 → Pp ys H4) → Q (.ref p) H3 := fun p ys H3 n e3 h3 z => q p ys H3 (fresh_back e2 n) (e2.trans e3) h3 fun H4 k => z H4 ⟨k.old, fun a o na ha => k.new a o (fresh_back e2 na) ha⟩
  cases b with
  | true =>
    show ta σ H2 Q
    exact h1 rfl H2 (e.trans e2) Q q'
  | false =>
    show tb σ H2 Q
    exact h2 rfl H2 (e.trans e2) Q q'
theorem el_of {ta : TE} {p : Addr} {xs : List V} (ha : Ev ta σ H (.ref p)) (h : Sq K H p xs) : EvL (tCB (fun xs H Q => ∃ p ys, xs = [.ref p] ∧ (SqL K H p ys ∨ SqT K H p ys) ∧ ∀ l, H l = none → Q (.ref l) (upd H l (.lst ys))) (tCons ta tNil)) σ H xs := fun H1 e Q q =>
  ha H1 e _ fun H2 e2 => ⟨p, xs, rfl, h.same (e.trans e2), fun l hl => q l _ (fresh_back e2 hl) (e2.trans (Ex.new hl)) upd_same⟩
end
section
variable {K : PySem.W.Frag} {σ : L2.St} {H : Hp} {t : TT} {ta tb : TE} {tu tw tz : TS} {D : Ends}
theorem et_eqs {x y : Str} {b : Bool} (h1 : Ev ta σ H (.str x)) (h2 : Ev tb σ H (.str y)) (hb : decide (V.str x = V.str y) = b) : EvT (tTest (tOp rEq ta tb)) σ H b := et_is (et_eq h1 h2 rfl) hb
theorem et_nes {x y : Str} {b : Bool} (h1 : Ev ta σ H (.str x)) (h2 : Ev tb σ H (.str y)) (hb : (!decide (V.str x = V.str y)) = b) : EvT (tTest (tOp rNe ta tb)) σ H b := et_is (et_ne h1 h2 rfl) hb
theorem q_no (h : EvT t σ H false) (k : ∀ H1, Ex H H1 → tz D σ H1) : tSeq (tIfS t tu tNext) tz D σ H := q_when h (fun z => nomatch z) fun _ => k
theorem q_yes (h : EvT t σ H true) (k : ∀ H1, Ex H H1 → tu { D with nx := tz D } σ H1) : tSeq (tIfS t tu tw) tz D σ H := q_if h (fun _ => k) fun z => nomatch z
theorem q_els (h : EvT t σ H false) (k : ∀ H1, Ex H H1 → tw { D with nx := tz D } σ H1) : tSeq (tIfS t tu tw) tz D σ H := q_if h (fun z => nomatch z) fun _ => k
theorem eb_yes {Pp : List V → Hp → Prop} (h : EvT t σ H true) (h1 : EvB ta σ H Pp) : EvB (tIf t ta tb) σ H Pp := eb_if h (fun _ => h1) fun z => nomatch z
theorem eb_els {Pp : List V → Hp → Prop} (h : EvT t σ H false) (h1 : EvB tb σ H Pp) : EvB (tIf t ta tb) σ H Pp := eb_if h (fun z => nomatch z) fun _ => h1
/-- t[j] of a tuple -/
theorem ev_t {i j : Nat} {p : Addr} {xs : List V} {v : V} (hσ : σ[i]? = some (some (.ref p))) (h : SqT K H p xs) (hj : xs[j]? = some v) : Ev (tOp (rIxT K) (tVar i) (tC (.int (j : Nat)))) σ H v := ev_ixT (ev_var hσ) ev_c h (at_of rfl hj)
theorem EvB.imp {te : TE} {Pp Pp' : List V → Hp → Prop} (h : EvB te σ H Pp) (hp : ∀ ys H1, Ex H H1 → Pp ys H1 → Pp' ys H1) : EvB te σ H Pp' := fun H1 e Q q => h H1 e Q fun p ys H2 n e2 h2 z => q p ys H2 n e2 h2 fun H3 k => hp ys H3 k.old (z H3 k)
end
/-! ### sources_of -/
def Sh.src : Sh → Option Bool
  | .M => some true | .C _ => some false | _ => none
/-- a source: the path x, and whether it gives -/
def IsSrc (K : PySem.W.Frag) (H : Hp) (b : Bool) (v : V) : Prop := ∃ t q, v = .ref t ∧ SqT K H t [.ref q, .bl b] ∧ SqT K H q [.str "x"]
def SrcL (K : PySem.W.Frag) (s : Sh) (ys : List V) (H : Hp) : Prop := match s.src with
  | none => ys = []
  | some b => ∃ v, ys = [v] ∧ IsSrc K H b v
def Sh.good : Sh → Bool
  | .P => true | .M => true | .C _ => true | _ => false
def spSrc (K : PySem.W.Frag) : Sp := fun vs H Q _ => ∃ s v H0, vs = [v] ∧ Ex H0 H ∧ IsS K H0 s v ∧ s.good = true ∧ RetB H0 (SrcL K s) H Q
abbrev sSrc : Stmt := top 41
theorem sc_src : FnScope ["statement"] ["statement"] (defScope sSrc) := ⟨rfl, rfl, rfl, by decide +kernel, rfl, by decide +kernel, by decide +kernel⟩
section
variable {P : Program} {w : World} {K : PySem.W.Frag} {mg : Str → Option Value} {base : Heap} {f : Addr} {fd : FuncData}
theorem ok_src (F : FnP K "sources_of" sSrc [] f fd) (gL : mg "list" = none) : FnOk P w K mg base CX0 1 f fd ["statement"] (spSrc K) := by
  refine F.ok sc_src (fun vs H Q E h => ?_) (fun cdv A outer s H vs Q E hr h => ?_)
  · obtain ⟨s, v, H0, rfl, _⟩ := h
    rfl
  · obtain ⟨s, v, H0, rfl, e0, hs, hg, k⟩ := h
    refine ⟨_, pss_cons (ps_if (pt_cmpR op_eq (pe_ix ix_tup (pv 0) pe_int (fun _ _ => rfl)) pe_str (nomark _)) (pss_one (ps_ret (pe_lst (pa_cons (pe_tup (pa_cons (pe_ix ix_tup (pv 0) pe_int (fun _ _ => rfl)) (pa_cons (pe_ix ix_tup (pv 0) pe_int (fun _ _ => rfl)) pa_nil))) pa_nil)))) pss_nil)
      (pss_one (ps_ret (pe_ifExp (pt_cmpR op_eq (pe_ix ix_tup (pv 0) pe_int (fun _ _ => rfl)) pe_str (nomark _)) (pe_callTy call_list_of (by rfl) gL boot_list (pa_cons (pe_ix ix_tup (pv 0) pe_int (fun _ _ => rfl)) pa_nil)) (pe_lst pa_nil)))), ?_⟩
    cases s with
    | P =>
      obtain ⟨t, q, rfl, h1, h2⟩ := hs
      refine q_no (et_eqs (ev_t (j := 0) rfl (ex_t e0 h1) rfl) ev_c (by decide)) fun H1 e1 => ?_
      refine s_retB (eb_els (et_eqs (ev_t (j := 0) rfl h1 rfl) ev_c (by decide)) (EvB.of (el_lst ea_nil (by decide)) fun _ _ => rfl)) e0 e1 k rfl
    | M =>
      obtain ⟨t, p, q, rfl, h1, h2, h3⟩ := hs
      refine q_yes (et_eqs (ev_t (j := 0) rfl (ex_t e0 h1) rfl) ev_c (by decide)) fun H1 e1 => ?_
      refine s_retB ((eb_tup1 (ea_cons (ev_t (j := 2) rfl h1 rfl) (ea_cons (ev_t (j := 3) rfl h1 rfl) ea_nil)) (by simp)).imp fun ys H2 e2 ⟨r, a, b⟩ => ⟨_, a, r, q, rfl, b, ex_t e2 h3⟩) e0 e1 k rfl
    | C w =>
      obtain ⟨t, p, q, r, u, rfl, h1, h2, h3, h4, h5⟩ := hs
      refine q_no (et_eqs (ev_t (j := 0) rfl (ex_t e0 h1) rfl) ev_c (by decide)) fun H1 e1 => ?_
      refine s_retB (eb_yes (et_eqs (ev_t (j := 0) rfl h1 rfl) ev_c (by decide)) (EvB.of (el_of (ev_t (j := 3) rfl h1 rfl) (.inr h3)) fun H2 e2 => ⟨_, rfl, r, u, rfl, ex_t e2 h4, ex_t e2 h5⟩)) e0 e1 k rfl
    | O0 => cases hg
    | O1 => cases hg
    | O2 => cases hg
    | O3 => cases hg
end
end Cp

namespace Cp
open PySem PySem.Spec PyProof.Rows L2 Evl
/-- what H0 knows, and what is new between He and H -/
def glue (H0 He H : Hp) : Hp := fun a => if He a = none then H a else H0 a
section
variable {H0 He H H2 H3 : Hp}
theorem glue_new {a : Addr} (h : He a = none) : glue H0 He H a = H a := if_pos h
theorem glue_old (e0 : Ex H0 He) : Ex H0 (glue H0 He H) := fun a o h => by
  unfold glue
  rw [if_neg (fun z => by rw [e0 a o h] at z; cases z)]
  exact h
theorem glue_ex (e0 : Ex H0 He) (e1 : Ex He H) : Ex (glue H0 He H) H := fun a o h => by
  unfold glue at h
  by_cases z : He a = none
  · rw [if_pos z] at h
    exact h
  · rw [if_neg z] at h
    exact e1 a o (e0 a o h)
theorem glue_kp (e1 : Ex He H) (e2 : Ex H H2) (k : Kp H0 He H2 H3) : Kp (glue H0 He H) H H2 H3 := by
  refine ⟨fun a o h => ?_, fun a o n h => k.new a o (fresh_back e1 n) h⟩
  unfold glue at h
  by_cases z : He a = none
  · rw [if_pos z] at h
    exact k.new a o z (e2 a o h)
  · rw [if_neg z] at h
    exact k.old a o h
end
section
variable {K : PySem.W.Frag} {σ : L2.St} {H : Hp}
theorem s_retG {te : TE} {Pp : List V → Hp → Prop} {D : Ends} {H0 He : Hp} {Q : VK} (h : EvB te σ (glue H0 He H) Pp) (e0 : Ex H0 He) (e1 : Ex He H) (k : RetB H0 Pp He Q) (hQ : D.rt = Q) : tRet te D σ H := h H (glue_ex e0 e1) _ fun p ys H2 n e2 h2 z => by
  rw [hQ]
  exact k p ys H2 (fresh_back e1 n) (e1.trans e2) h2 fun H3 kk => z H3 (glue_kp e1 e2 kk)
/-- [] + e -/
theorem eb_cat0 {ta tb : TE} {Pp : List V → Hp → Prop} {p : Addr} (ha : Ev ta σ H (.ref p)) (hp : H p = some (.lst [])) (hb : EvB tb σ H Pp) (hl : ∀ ys H1, Pp ys H1 → ys.length ≤ 1000) : EvB (tOp rCat ta tb) σ H Pp := fun H1 e Q q =>
  ha H1 e _ fun H2 e2 => hb H2 (e.trans e2) _ fun c ys H3 n e3 h3 z => ⟨p, c, [], ys, rfl, rfl, e3 p _ (e2 p _ (e p _ hp)), h3, by
    have := hl ys H3 (z H3 (Kp.self ((e.trans e2).trans e3)))
    exact sz_of (by simp; omega), fun l hl' => q l ys _ (fresh_back (e2.trans e3) hl') ((e2.trans e3).trans (Ex.new hl')) upd_same fun H4 k => z H4 ⟨k.old, fun a o na ha => k.new a o (fresh_back e2 na) (by
      rw [upd_ne (ne_of_none ha hl')]
      exact ha)⟩⟩
/-- a slice of a new list of which nothing stays -/
theorem el_sl0 {te : TE} {tl th : TO} {lo hi : Option Int} {Pp : List V → Hp → Prop} (h : EvB te σ H Pp) (h1 : EvO tl σ H lo) (h2 : EvO th σ H hi) (hc : ∀ ys H1, Pp ys H1 → cutV ys lo hi = []) : EvL (tSl (rSlL K) te tl th) σ H [] := fun H1 e Q q =>
  h H1 e _ fun p ys H2 n e2 hp z => h1 H2 (e.trans e2) _ fun H3 e3 => h2 H3 ((e.trans e2).trans e3) _ fun H4 e4 =>
    ⟨p, ys, rfl, sq_of (e4 p _ (e3 p _ hp)), fun l hl => q l _ (fresh_back ((e2.trans e3).trans e4) hl) (((e2.trans e3).trans e4).trans (Ex.new hl)) (by rw [upd_same, hc ys H2 (z H2 (Kp.self (e.trans e2)))])⟩
theorem pg_no {X : Cx} {tg : Expr} : PG X tg (fun _ _ _ _ => False) := ⟨fun _ _ _ _ _ _ _ _ _ h => h.elim⟩
theorem EvO.sum {te : TE} {i : Int} (h : Ev te σ H (.int i)) : EvO (tPart te) σ H (some i) := eo_some h
end
theorem g_two {K : PySem.W.Frag} {i j : Nat} {t : Addr} {x y : V} {σ : L2.St} {H : Hp} {Q : L2.St → Hp → Prop} (h : SqT K H t [x, y]) (k : Q ((σ.set i (some x)).set j (some y)) H) : gTup K 2 (gCons (gName i) (gCons (gName j) gNil)) (.ref t) σ H Q := ⟨t, _, rfl, h, rfl, x, _, rfl, y, _, rfl, rfl, k⟩
/-! ### uses_of, first_use -/
def UseL (K : PySem.W.Frag) (b : Bool) (n : Str) (ys : List V) (H : Hp) : Prop := ∃ t, ys = [.ref t] ∧ SqT K H t [.bl b, .str n]
def spUses (K : PySem.W.Frag) : Sp := fun vs H Q _ => ∃ s v H0, Ex H0 H ∧ IsS K H0 s v ∧ ((s = .P ∧ vs = [v, .int (-1)] ∧ RetB H0 (UseL K true "x") H Q) ∨ (s = .M ∧ vs = [v, .int 0] ∧ RetB H0 (UseL K false "y") H Q))
abbrev sUses : Stmt := top 42
def Nuses : List Str := ["statement", "done", "found", "path", "give"]
theorem sc_uses : FnScope Nuses ["statement", "done"] (defScope sUses) := ⟨rfl, rfl, rfl, by decide +kernel, rfl, by decide +kernel, by decide +kernel⟩
section
variable {P : Program} {w : World} {K : PySem.W.Frag} {mg : Str → Option Value} {base : Heap} {f : Addr} {fd : FuncData}
theorem ok_uses {fS : Addr} {fdS : FuncData} (F : FnP K "uses_of" sUses [.int (-1)] f fd) (GS : FnOk P w K mg base CX0 1 fS fdS ["statement"] (spSrc K)) (gS : mg "sources_of" = some (.ref fS)) (kS : PySem.W.keepIn K (.ref fS) = true) (bS : Binds K fdS ["statement"] []) (gL : mg "len" = none) :
    FnOk P w K mg base CX0 2 f fd ["statement", "done"] (spUses K) := by
  refine F.ok sc_uses (fun vs H Q E h => ?_) (fun cdv A outer s H vs Q E hr h => ?_)
  · obtain ⟨s, v, H0, _, _, ⟨_, rfl, _⟩ | ⟨_, rfl, _⟩⟩ := h <;> rfl
  · obtain ⟨s, v, H0, e0, hs, h⟩ := h
    refine ⟨_, pss_cons (by
        exact ps_if (pt_cmpR op_eq (pe_ix ix_tup (pv 0) pe_int (fun _ _ => rfl)) pe_str (nomark _)) (pss_one (ps_ret (pe_lst pa_nil))) pss_nil) <| pss_cons (by
        exact ps_if (pt_cmpR op_in_seq (pe_ix ix_tup (pv 0) pe_int (fun _ _ => rfl)) (pe_tup (pa_cons pe_str (pa_cons pe_str pa_nil))) rfl) (pss_one (ps_ret (pe_lst (pa_cons (pe_tup (pa_cons pe_bl (pa_cons (pe_ix ix_tup (pe_ix ix_tup (pv 0) pe_int (fun _ _ => rfl)) pe_int (fun _ _ => rfl)) pa_nil))) pa_nil)))) pss_nil) <| pss_cons (by
        exact ps_setLc (i := 2) (own := [("path", 3), ("give", 4)]) (g := fun _ _ _ _ => False) (tt := tYes) rfl sc_uses.nd rfl rfl rfl (pi_list (by exact pe_slice sl_list (pe_call GS hr (by rfl) gS kS bS .nil pass0 (pa_cons (pv 0) pa_nil)) (po_some (pe_op op_add (pv 1) pe_int)) po_none)) (blkOk_by (by kernel_rfl)) (fun _ _ _ _ _ => pg_no) (fun _ _ _ _ _ => pts_nil) (fun _ _ _ _ _ => pe_no)) <| pss_one (by
        refine ps_ret (pe_op op_cat (pv 2) (pe_lst (pa_cons (pe_tup (pa_cons (by
          exact pe_cmpR op_gt (pe_callB call_len_seq (by rfl) gL PySem.boot_len (pa_cons (pe_ix ix_tup (pv 0) pe_int (fun _ _ => rfl)) pa_nil)) pe_int (nomark _)) (pa_cons (by
          exact pe_ix ix_tup (pe_ix ix_tup (pv 0) pe_int (fun _ _ => rfl)) pe_int (fun _ _ => rfl)) pa_nil))) pa_nil)))), ?_⟩
    rcases h with ⟨rfl, rfl, k⟩ | ⟨rfl, rfl, k⟩
    · obtain ⟨t, q, rfl, h1, h2⟩ := hs
      refine q_no (et_eqs (ev_t (j := 0) rfl (ex_t e0 h1) rfl) ev_c (by decide)) fun H1 e1 => ?_
      refine q_yes (et_test (ev_inU (ev_t (j := 0) rfl (ex_t (e0.trans e1) h1) rfl) (eu_tup (ea_cons ev_c (ea_cons ev_c ea_nil)) (by simp)) rfl rfl)) fun H2 e2 => ?_
      exact s_retB (eb_tup1 (ea_cons ev_c (ea_cons (ev_ixT (ev_t (j := 1) rfl h1 rfl) ev_c h2 (at_of (j := 0) rfl rfl)) ea_nil)) (by simp)) e0 (e1.trans e2) k rfl
    · obtain ⟨t, p, q, rfl, h1, h2, h3⟩ := hs
      refine q_no (et_eqs (ev_t (j := 0) rfl (ex_t e0 h1) rfl) ev_c (by decide)) fun H1 e1 => ?_
      refine q_no (et_test (ev_inU (ev_t (j := 0) rfl (ex_t (e0.trans e1) h1) rfl) (eu_tup (ea_cons ev_c (ea_cons ev_c ea_nil)) (by simp)) rfl rfl)) fun H2 e2 => ?_
      refine q_asgL (el_lc0 (el_sl0 (Pp := SrcL K .M) (eb_call (ea_cons (ev_var rfl) ea_nil) fun H3 e3 Q E kq => ⟨.M, _, H2, rfl, e3, ⟨t, p, q, rfl, ?_, ?_, ?_⟩, rfl, kq⟩) (eo_some (ev_op (x := .int 0) (y := .int 1) (ev_var rfl) ev_c rv_I0)) eo_none ?_)) fun l H3 hl e3 h3' => ?_
      · exact ex_t (e0.trans (e1.trans e2)) h1
      · exact ex_t (e0.trans (e1.trans e2)) h2
      · exact ex_t (e0.trans (e1.trans e2)) h3
      · rintro ys H4 ⟨v, rfl, _⟩
        rfl
      · have e03 := (e1.trans e2).trans e3
        have hg : ∀ a xs, SqT K H0 a xs → SqT K (glue H0 H H3) a xs := fun a xs z => ex_t (glue_old e0) z
        refine s_retG (eb_cat0 (p := l) (ev_var rfl) ((glue_new (fresh_back (e1.trans e2) hl)).trans h3') ((eb_tup1 (ea_cons (ev_op (x := .int 1) (y := .int 1) (ev_lenQ (ev_t (j := 1) rfl (hg _ _ h1) rfl) (.inr (hg _ _ h2))) ev_c rv_I0) (ea_cons (ev_ixT (ev_t (j := 1) rfl (hg _ _ h1) rfl) ev_c (hg _ _ h2) (at_of (j := 0) rfl rfl)) ea_nil)) (by simp)).imp (Pp' := UseL K false "y") fun ys H4 e4 ⟨r, a, b⟩ => ⟨r, a, b⟩) ?_) e0 e03 k rfl
        rintro ys H4 ⟨r, rfl, _⟩
        simp
theorem sc_first : FnScope ["uses", "name", "reads", "one"] ["uses", "name"] (defScope (top 43)) := ⟨rfl, rfl, rfl, by decide +kernel, rfl, by decide +kernel, by decide +kernel⟩
/-- first_use of one use -/
def spFirst (K : PySem.W.Frag) : Sp := fun vs H Q _ => ∃ p t b n m, vs = [.ref p, .str m] ∧ SqL K H p [.ref t] ∧ SqT K H t [.bl b, .str n] ∧ RetV (if n = m then .bl b else .non) H Q
theorem ok_first (F : FnP K "first_use" (top 43) [] f fd) : FnOk P w K mg base CX0 1 f fd ["uses", "name"] (spFirst K) := by
  refine F.ok sc_first (fun vs H Q E h => ?_) (fun cdv A outer s H vs Q E hr h => ?_)
  · obtain ⟨p, t, b, n, m, rfl, _⟩ := h
    rfl
  · obtain ⟨p, t, b, n, m, rfl, h1, h2, k⟩ := h
    refine ⟨_, pss_cons (by
        exact ps_for (passes_of rfl) rfl (pi_list (pv 0)) (pg_tup rfl (pgs_cons (pg_name (i := 2) sc_first.nd rfl (Or.inl rfl)) (pgs_cons (pg_name (i := 3) sc_first.nd rfl (Or.inl rfl)) pgs_nil))) (pss_one (ps_if (pt_cmpR op_eq (pv 3) (pv 1) (nomark _)) (pss_one (ps_ret (pv 2))) pss_nil))) <| pss_one (by
        exact ps_ret pe_non), ?_⟩
    refine q_forL (ev_var rfl) h1 (fun i σ' H' => Ex H H' ∧ (i = 1 → n ≠ m) ∧ (i = 0 → σ' = start ["uses", "name", "reads", "one"] [.ref p, .str m])) (fun H1 e1 => ⟨e1, fun z => (nomatch z), fun _ => rfl⟩) (fun i σ' H' _ z => ex_l z.1 h1) (fun i x σ' H' hx z => ?_) fun σ' H' z => ?_
    · obtain ⟨e1, _, z⟩ := z
      cases i with
      | succ i => simp at hx
      | zero =>
        have ex : .ref t = x := Option.some.inj hx
        subst ex
        rw [z rfl]
        refine g_two (ex_t e1 h2) ?_
        refine s_when (et_eq (ev_var rfl) (ev_var rfl) rfl) (fun hb H2 e2 => s_ret (ev_var rfl) fun H3 e3 => ?_) fun hb H2 e2 => ⟨e1.trans e2, fun _ q => ?_, fun q => (nomatch q)⟩
        · have q : n = m := V.str.inj (of_decide_eq_true hb)
          rw [if_pos q] at k
          exact k H3 ((e1.trans e2).trans e3)
        · rw [q] at hb
          simp at hb
    · obtain ⟨e1, z, _⟩ := z
      rw [if_neg (z rfl)] at k
      exact s_ret ev_c fun H2 e2 => k H2 (e1.trans e2)
end
end Cp

namespace Cp
open PySem PySem.Spec PyProof.Rows L2 Evl GN
section
variable {K : PySem.W.Frag} {σ : L2.St} {H : Hp}
theorem sqT_upd {H : Hp} {l t : Addr} {z : List V} {o : HO} {xs : List V} (hl : H l = some (.lst z)) (h : SqT K H t xs) : SqT K (upd H l o) t xs := by
  rcases h with h | h
  · refine .inl ?_
    have ht : t ≠ l := fun e => by
      subst e
      rcases h with h | ⟨o', h⟩
      · rw [hl] at h
        cases h
      · rw [hl] at h
        cases h
    rcases h with h | ⟨o', h⟩
    · exact .inl (by rw [upd_ne ht]; exact h)
    · exact .inr ⟨o', by rw [upd_ne ht]; exact h⟩
  · exact .inr h
/-- enumerate(xs) walked: the pairs are new -/
theorem ew_enum {ta : TA} {a : Addr} {xs : List V} (h : EvA ta σ H [.ref a]) (hx : Sq K H a xs) : EvW (iEnumS K ta) σ H xs.length (YPair (fun i => some (.int (i : Nat))) fun i => xs[i]?) := by
  rcases hx with hx | hx
  · exact ⟨Ite K a, fun H1 => SqL K H1 a xs, walk_enum, fun H1 e => ex_l e hx, fun H1 e R q => h H1 e _ fun H2 e2 => ⟨a, rfl, .inl ⟨⟨xs, ex_l (e.trans e2) hx⟩, q H2 e2⟩⟩⟩
  · exact ⟨Itet K a, fun H1 => SqT K H1 a xs, walk_enumT, fun H1 e => ex_t e hx, fun H1 e R q => h H1 e _ fun H2 e2 => ⟨a, rfl, .inr (.inl ⟨⟨xs, ex_t (e.trans e2) hx⟩, q H2 e2⟩)⟩⟩
/-- for over what is walked, the walked thing known in H0 -/
theorem s_forW {wi : TI} {g : L2.TG} {tu : TS} {D : Ends} {n : Nat} {Y : Nat → Hp → V → Hp → Prop} {H0 : Hp} (hw : EvW wi σ H0 n Y) (e0 : Ex H0 H) (Pv : Nat → L2.St → Hp → Prop) (h0 : ∀ H1, Ex H H1 → Pv 0 σ H1) (hG : ∀ i σ' H', i ≤ n → Pv i σ' H' → Ex H0 H')
    (hs : ∀ i x σ' H' H2, i < n → Pv i σ' H' → Y i H' x H2 → g x σ' H2 fun σ2 H3 => tu { D with nx := Pv (i + 1), ct := Pv (i + 1), bk := D.nx } σ2 H3) (hd : ∀ σ' H', Pv n σ' H' → D.nx σ' H') : tFor wi g tu D σ H := by
  obtain ⟨J, G, w, hG', hwi⟩ := hw
  exact hwi H e0 _ fun H1 e1 => for_it w Pv (h0 H1 e1) (fun i σ H hi p => hG' H (hG i σ H hi p)) (fun i x σ H H' hi p y => hs i x σ H H' hi p y) hd
theorem ev_call1L {sp : Sp} {dvs : List V} {E : XK} {te : TE} {xs : List V} {z : V} (h : EvL te σ H xs) (hs : ∀ p H1, Ex H H1 → H1 p = some (.lst xs) → SpV sp ([.ref p] ++ dvs) H1 z) : Ev (tCall sp dvs E (tCons te tNil)) σ H z := fun H1 e Q q =>
  h H1 e _ fun p H2 _ e2 hp => hs p H2 (e.trans e2) hp H2 (Ex.refl _) Q (fun H3 e3 => q H3 (e2.trans e3)) E
/-- xs.extend(e), e a new list -/
theorem s_ext {l : Addr} {xs : List V} {ta te : TE} {Pp : List V → Hp → Prop} {H0 : Hp} {D : Ends} (hl : H l = some (.lst xs)) (ha : Ev ta σ H (.ref l)) (h : EvB te σ H0 Pp) (e0 : Ex H0 H) (hz : ∀ ys H1, Pp ys H1 → xs.length + ys.length ≤ 100000)
    (k : ∀ p ys H1, H p = none → Ex H H1 → H1 p = some (.lst ys) → (∀ H3, Kp H0 H H1 H3 → Pp ys H3) → D.nx σ (upd H1 l (.lst (xs ++ ys)))) : tDrop (tBM K "list" rExtend ta (tCons te tNil)) D σ H := ha H (Ex.refl H) _ fun H1 e1 =>
  ⟨.inl ⟨rfl, xs, sq_of (e1 l _ hl)⟩, h H1 (e0.trans e1) _ fun p ys H2 n e2 hp z => ⟨l, p, xs, ys, rfl, rfl, e2 l _ (e1 l _ hl), hp, sz_of (hz ys H2 (z H2 (Kp.self ((e0.trans e1).trans e2)))), k p ys H2 (fresh_back e1 n) (e1.trans e2) hp fun H3 kk => z H3 ⟨kk.old, fun a o na hh => kk.new a o (fresh_back e1 na) hh⟩⟩⟩
end
/-! ### rows_of, laid -/
def RowL (K : PySem.W.Frag) (v : V) (f : Int) (ys : List V) (H : Hp) : Prop := ∃ t, ys = [.ref t] ∧ SqT K H t [v, .int f, .int f]
def spRow (K : PySem.W.Frag) : Sp := fun vs H Q _ => ∃ v a f H0, vs = [v, .int a, .int f] ∧ Ex H0 H ∧ Flat K H0 v ∧ RetB H0 (RowL K v f) H Q
def Nrow : List Str := ["statement", "at", "follow", "bodies", "head", "yes", "no", "late", "rows"]
theorem sc_row : FnScope Nrow ["statement", "at", "follow"] (defScope (top 40)) := ⟨rfl, rfl, rfl, by decide +kernel, rfl, by decide +kernel, by decide +kernel⟩
/-- the rows of a flat body -/
def RowsL (K : PySem.W.Frag) (xs ys : List V) (H : Hp) : Prop := ys.length = xs.length ∧ ∀ (i : Nat) x y, xs[i]? = some x → ys[i]? = some y → ∃ t, y = .ref t ∧ SqT K H t [x, .int ((i : Nat) + 1), .int ((i : Nat) + 1)]
def spLaid (K : PySem.W.Frag) : Sp := fun vs H Q _ => ∃ a xs H0, vs = [.ref a, .int 0, .int (xs.length : Nat)] ∧ Ex H0 H ∧ FlatB K H0 a xs ∧ RetB H0 (RowsL K xs) H Q
def Nlaid : List Str := ["body", "first", "after", "rows", "at", "place", "statement", "size", "follow"]
theorem sc_laid : FnScope Nlaid ["body", "first", "after"] (defScope (top 39)) := ⟨rfl, rfl, rfl, by decide +kernel, rfl, by decide +kernel, by decide +kernel⟩
section
variable {P : Program} {w : World} {K : PySem.W.Frag} {mg : Str → Option Value} {base : Heap} {f : Addr} {fd : FuncData}
theorem ok_row {fB : Addr} {fdB : FuncData} (F : FnP K "rows_of" (top 40) [] f fd) (GB : FnOk P w K mg base CX0 1 fB fdB ["statement"] (spBodies K)) (gB : mg "bodies_of" = some (.ref fB)) (kB : PySem.W.keepIn K (.ref fB) = true) (bB : Binds K fdB ["statement"] []) (gL : mg "len" = none) :
    FnOk P w K mg base CX0 2 f fd ["statement", "at", "follow"] (spRow K) := by
  refine F.ok sc_row (fun vs H Q E h => ?_) (fun cdv A outer s H vs Q E hr h => ?_)
  · obtain ⟨v, a, f, H0, rfl, _⟩ := h
    rfl
  · obtain ⟨v, a, fo, H0, rfl, e0, ⟨t, wd, r, rfl, hf⟩, k⟩ := h
    refine ⟨_, pss_cons (by
        exact ps_asg (pe_call GB hr (by rfl) gB kB bB .nil pass0 (pa_cons (pv 0) pa_nil)) (pg_name (i := 3) sc_row.nd rfl (Or.inl rfl))) <| pss_cons (by
        exact ps_if (pt_cmpR op_eq (pe_callB call_len_seq (by rfl) gL PySem.boot_len (pa_cons (pv 3) pa_nil)) pe_int (nomark _)) (pss_one (ps_ret (pe_lst (pa_cons (pe_tup (pa_cons (pv 0) (pa_cons (pv 2) (pa_cons (pv 2) pa_nil)))) pa_nil)))) pss_nil) <| pss_no, ?_⟩
    refine q_asgL (el_call (ea_cons (ev_var rfl) ea_nil) (bodies_call (hf.same e0))) fun p H1 hp e1 h1 => ?_
    refine q_yes (et_is (et_eq (ev_lenQ (ev_var rfl) (.inl (sq_of h1))) ev_c rfl) rfl) fun H2 e2 => ?_
    exact s_retB (eb_tup1 (ea_cons (ev_var rfl) (ea_cons (ev_var rfl) (ea_cons (ev_var rfl) ea_nil))) (by simp)) e0 (e1.trans e2) k rfl
theorem ok_laid {fC fR : Addr} {fdC fdR : FuncData} (F : FnP K "laid" (top 39) [] f fd) (GC : FnOk P w K mg base CX0 2 fC fdC ["body"] (spCount K)) (gC : mg "count_in" = some (.ref fC)) (kC : PySem.W.keepIn K (.ref fC) = true) (bC : Binds K fdC ["body"] [])
    (GR : FnOk P w K mg base CX0 2 fR fdR ["statement", "at", "follow"] (spRow K)) (gR : mg "rows_of" = some (.ref fR)) (kR : PySem.W.keepIn K (.ref fR) = true) (bR : Binds K fdR ["statement", "at", "follow"] []) (gL : mg "len" = none) (gE : mg "enumerate" = none) :
    FnOk P w K mg base CX0 3 f fd ["body", "first", "after"] (spLaid K) := by
  refine F.ok sc_laid (fun vs H Q E h => ?_) (fun cdv A outer s H vs Q E hr h => ?_)
  · obtain ⟨a, xs, H0, rfl, _⟩ := h
    rfl
  · obtain ⟨a, xs, H0, rfl, e0, hB, k⟩ := h
    refine ⟨_, pss_cons (by
        exact ps_par (i := 3) (j := 4) rfl sc_laid.nd rfl rfl (by decide) rfl rfl (pa_cons (pe_lst pa_nil) (pa_cons (pv 1) pa_nil)) (by rfl)) <| pss_cons (by
        refine ps_for (passes_of rfl) rfl (pi_enumS (by rfl) gE (pa_cons (pv 0) pa_nil)) (pg_tup rfl (pgs_cons (pg_name (i := 5) sc_laid.nd rfl (Or.inl rfl)) (pgs_cons (pg_name (i := 6) sc_laid.nd rfl (Or.inl rfl)) pgs_nil))) (pss_cons (by
            exact ps_asg (pe_call GC hr (by rfl) gC kC bC .nil pass0 (pa_cons (pe_lst (pa_cons (pv 6) pa_nil)) pa_nil)) (pg_name (i := 7) sc_laid.nd rfl (Or.inl rfl))) <| pss_cons (by
            exact ps_asg (pe_ifExp (pt_cmpR op_lt (pe_op op_add (pv 5) pe_int) (pe_callB call_len_seq (by rfl) gL PySem.boot_len (pa_cons (pv 0) pa_nil)) (nomark _)) (pe_op op_add (pv 4) (pv 7)) (pv 2)) (pg_name (i := 8) sc_laid.nd rfl (Or.inl rfl))) <| pss_cons (by
            exact ps_expr (pe_bm PySem.F.plainAttrs_list PySem.F.slot_list_extend PySem.F.type_list_extend mt_extend (pv 3) (pa_cons (pe_call GR hr (by rfl) gR kR bR .nil pass0 (pa_cons (pv 6) (pa_cons (pv 4) (pa_cons (pv 8) pa_nil)))) pa_nil))) <| pss_one (by
            exact ps_aug sc_laid.nd (i := 4) rfl (Or.inl rfl) (pv 7) ip_add (Or.inl rfl)))) <| pss_one (by
        exact ps_ret (pv 3)), ?_⟩
    refine ⟨sz_of (n := 0) (by decide), fun l hl => ⟨.int 0, rfl, .ref l, .int 0, rfl, ?_⟩⟩
    have hn := hB.2.1
    refine s_forW (H0 := H0) (n := xs.length) (ew_enum (ea_cons (ev_var rfl) ea_nil) hB.1) (e0.trans (Ex.new hl)) (fun i σ' H' => ∃ ys p5 p6 p7 p8, σ' = [some (.ref a), some (.int 0), some (.int (xs.length : Nat)), some (.ref l), some (.int (i : Nat)), p5, p6, p7, p8] ∧ H' l = some (.lst ys) ∧ Ex H H' ∧ ys.length = i ∧
      ∀ H3, Ex H0 H3 → (∀ b o, b ≠ l → H b = none → H' b = some o → H3 b = some o) → RowsL K (xs.take i) ys H3) ?_ (fun i σ' H' _ z => ?_) ?_ ?_
    · intro H1 e1
      exact ⟨[], none, none, none, none, rfl, e1 l _ upd_same, (Ex.new hl).trans e1, rfl, fun H3 _ _ => ⟨rfl, fun i x y hx => by simp at hx⟩⟩
    · obtain ⟨ys, p5, p6, p7, p8, _, _, e, _⟩ := z
      exact e0.trans e
    · rintro i x σ' H' H2 hi ⟨ys, p5, p6, p7, p8, rfl, hl', e, hly, hR⟩ ⟨T, v5, x6, rfl, hT, rfl, h5, h6⟩
      have h5 : V.int (i : Nat) = v5 := Option.some.inj h5
      subst h5
      have eT : Ex H' (upd H' T (.tup [.int (i : Nat), x6])) := Ex.new hT
      refine g_two (st_of upd_same) ?_
      obtain ⟨t, wd, r, rfl, hf⟩ := hB.2.2 x6 (List.mem_of_getElem? h6)
      refine q_asg (v := .int 1) (ev_call1L (el_lst (ea_cons (ev_var rfl) ea_nil) (by simp)) fun p H1 e1 hp => ?_) fun H3 e3 => ?_
      · refine RetV.call fun H5 e5 Q E q => ⟨p, [.ref t], rfl, ⟨.inl (sq_of (e5 p _ hp)), by simp, fun y hy => ?_⟩, q⟩
        rw [List.mem_singleton.mp hy]
        exact ⟨t, wd, r, rfl, hf.same (((e0.trans e).trans eT).trans (e1.trans e5))⟩
      refine q_asg (v := .int ((i : Nat) + 1)) (ev_if (b := decide ((i : Int) + 1 < (xs.length : Nat))) (et_test (ev_op (x := .int ((i : Nat) + 1)) (y := .int (xs.length : Nat)) (ev_op (x := .int (i : Nat)) (y := .int 1) (ev_var rfl) ev_c rv_I0) (ev_lenQ (ev_var rfl) (hB.1.same (((e0.trans e).trans eT).trans e3))) rv_I0)) (fun _ => ev_op (x := .int (i : Nat)) (y := .int 1) (ev_var rfl) (ev_var rfl) rv_I0) fun hb => ?_) fun H4 e4 => ?_
      · have q : (xs.length : Int) = (i : Int) + 1 := by
          have := of_decide_eq_false hb
          omega
        refine ev_is (ev_var (v := .int (xs.length : Nat)) rfl) (by rw [q])
      have hl4 : H4 l = some (.lst ys) := e4 l _ (e3 l _ (eT l _ hl'))
      have e04 : Ex H H4 := ((e.trans eT).trans e3).trans e4
      refine s_ext (H0 := H0) hl4 (ev_var rfl) (Pp := RowL K (.ref t) ((i : Nat) + 1)) (eb_call (ea_cons (ev_var rfl) (ea_cons (ev_var rfl) (ea_cons (ev_var rfl) ea_nil))) fun H5 e5 Q E kq => ⟨_, _, _, H0, rfl, e5, ⟨t, wd, r, rfl, hf⟩, kq⟩) (e0.trans e04) ?_ fun p zs H5 hp e5 h5 hz => ?_
      · rintro zs H5 ⟨t', rfl, _⟩
        simp; omega
      · obtain ⟨tz, rfl, _⟩ := hz H5 (Kp.self ((e0.trans e04).trans e5))
        refine s_aug (a := (i : Nat)) (b := 1) rfl (ev_var rfl) fun H6 e6 => ?_
        refine ⟨ys ++ [.ref tz], _, _, _, _, rfl, e6 l _ upd_same, (Ex.mut (e04.trans e5) hl).trans e6, by simp [hly], fun H7 e7 k7 => ?_⟩
        have old := hR H7 e7 fun b o hb n h => k7 b o hb n (e6 b o (by
          rw [upd_ne hb]
          exact e5 b o (e4 b o (e3 b o (eT b o h)))))
        obtain ⟨tz', e1, row⟩ := hz H7 ⟨e7, fun b o n h => by
          have hb : b ≠ l := fun z => by
            rw [z, hl4] at n
            cases n
          exact k7 b o hb (fresh_back e04 n) (e6 b o (by rw [upd_ne hb]; exact h))⟩
        have e1 : tz = tz' := V.ref.inj (List.cons.inj e1).1
        subst e1
        refine ⟨by simp [hly]; omega, fun j x y hx hy => ?_⟩
        by_cases hj : j < i
        · rw [List.getElem?_append_left (by omega)] at hy
          refine old.2 j x y ?_ hy
          rw [List.getElem?_take_of_lt hj]
          rw [List.getElem?_take_of_lt (by omega)] at hx
          exact hx
        · have hj2 : j = i := by
            have := (List.getElem?_eq_some_iff.mp hx).1
            simp at this
            omega
          subst hj2
          have h6 : xs[j]? = some (.ref t) := h6
          rw [List.getElem?_take_of_lt (by omega), h6] at hx
          rw [List.getElem?_append_right (by omega), hly, Nat.sub_self] at hy
          have e1 : .ref t = x := Option.some.inj hx
          have e2 : .ref tz = y := Option.some.inj hy
          subst e1 e2
          exact ⟨tz, rfl, row⟩
    · rintro σ' H' ⟨ys, p5, p6, p7, p8, rfl, hl', e, hly, hR⟩
      refine s_ret (v := .ref l) (ev_var rfl) fun H1 e1 => k l ys H1 hl (e.trans e1) (e1 l _ hl') fun H3 kk => ?_
      have z := hR H3 kk.old fun b o _ n h => kk.new b o n (e1 b o h)
      rw [List.take_length] at z
      exact z
end
end Cp

namespace Cp
open PySem PySem.Spec PyProof.Rows L2 Evl GN
theorem hu1 {k : Nat} {A : Around} (r : Room k A) : A.units + 1 < cLine := by have := r.units; omega
section
variable {K : PySem.W.Frag} {σ : L2.St} {H : Hp} {ta tb te td ty tv : TE} {D : Ends}
theorem rd_ex {H H' : Hp} (e : Ex H H') {a : Addr} {u : HO} (h : Rd H a u) : Rd H' a u := ex_rd e h
theorem ev_din {a : Addr} {k : L2.Key} {kvs : List (L2.Key × V)} (hy : Ev ty σ H (kV k)) (hd : Ev td σ H (.ref a)) (h : Rd H a (.dK kvs)) : Ev (tDIn ty td) σ H (.bl (valV kvs k).isSome) := fun H1 e Q q =>
  hy H1 e _ fun H2 e2 => hd H2 (e.trans e2) _ fun H3 e3 => ⟨a, _, rfl, .inl ⟨kvs, k, rd_ex ((e.trans e2).trans e3) h, rfl, rfl⟩, q H3 (e2.trans e3)⟩
theorem ev_dnotin {a : Addr} {k : L2.Key} {kvs : List (L2.Key × V)} (hy : Ev ty σ H (kV k)) (hd : Ev td σ H (.ref a)) (h : Rd H a (.dK kvs)) : Ev (tDNotIn ty td) σ H (.bl (!(valV kvs k).isSome)) := fun H1 e Q q =>
  hy H1 e _ fun H2 e2 => hd H2 (e.trans e2) _ fun H3 e3 => ⟨a, _, rfl, .inl ⟨kvs, k, rd_ex ((e.trans e2).trans e3) h, rfl, rfl⟩, q H3 (e2.trans e3)⟩
theorem ev_dget {a : Addr} {k : L2.Key} {kvs : List (L2.Key × V)} {v : V} (hd : Ev td σ H (.ref a)) (hy : Ev ty σ H (kV k)) (h : Rd H a (.dK kvs)) (hv : valV kvs k = some v) : Ev (tDGet td ty) σ H v := fun H1 e Q q =>
  hd H1 e _ fun H2 e2 => hy H2 (e.trans e2) _ fun H3 e3 => ⟨a, v, rfl, .inl ⟨kvs, k, rd_ex ((e.trans e2).trans e3) h, rfl, hv.symm⟩, q H3 (e2.trans e3)⟩
theorem s_dput {a : Addr} {k : L2.Key} {kvs : List (L2.Key × V)} {v : V} (hv : Ev tv σ H v) (hd : Ev td σ H (.ref a)) (hy : Ev ty σ H (kV k)) (h : H a = some (.dK kvs)) (hl : kvs.length < 100000) (kk : ∀ H1, Ex H H1 → D.nx σ (upd H1 a (.dK (putK kvs k v)))) : sDPut td ty tv D σ H :=
  hv H (Ex.refl H) _ fun H1 e1 => hd H1 e1 _ fun H2 e2 => hy H2 (e1.trans e2) _ fun H3 e3 => ⟨a, _, rfl, DPut.k (((e1.trans e2).trans e3) a _ h) (sz_lt hl), kk H3 ((e1.trans e2).trans e3)⟩
/-- x = xs.pop() -/
theorem s_pop {l : Addr} {xs : List V} {x : V} {i : Nat} (hl : H l = some (.lst (xs ++ [x]))) (ha : Ev ta σ H (.ref l)) (k : ∀ H1, Ex H H1 → D.nx (σ.set i (some x)) (upd H1 l (.lst xs))) : tAsg (tBM0 K "list" rPop ta) (gName i) D σ H := ha H (Ex.refl H) _ fun H1 e1 =>
  ⟨.inl ⟨rfl, _, sq_of (e1 l _ hl)⟩, l, _, x, rfl, rfl, e1 l _ hl, by simp, by
    rw [List.dropLast_concat]
    exact k H1 e1⟩
theorem ev_rd {te : TE} {v : V} {H' : Hp} (e : Ex H H') (h : Ev te σ H v) : Ev te σ H' v := h.mono e
theorem ev_ixL {p : Addr} {xs : List V} {i : Nat} {v : V} (h1 : Ev ta σ H (.ref p)) (h2 : Ev tb σ H (.int (i : Nat))) (h : SqL K H p xs) (ha : xs[i]? = some v) : Ev (tOp (rIxL K) ta tb) σ H v := ev_op h1 h2 (rv_ixL h (atI_nat ha))
/-- a, b, c = a tuple -/
theorem s_asg3 {t : Addr} {x y z : V} {i j m : Nat} (h : Ev te σ H (.ref t)) (ht : SqT K H t [x, y, z]) (k : ∀ H1, Ex H H1 → D.nx (((σ.set i (some x)).set j (some y)).set m (some z)) H1) : tAsg te (gTup K 3 (gCons (gName i) (gCons (gName j) (gCons (gName m) gNil)))) D σ H := h H (Ex.refl H) _ fun H1 e => ⟨t, _, rfl, ex_t e ht, rfl, x, _, rfl, y, _, rfl, z, _, rfl, rfl, k H1 e⟩
theorem et_nei {a b : V} {c : Bool} (h1 : Ev ta σ H a) (h2 : Ev tb σ H b) (hs : scal a b = true) (hb : decide (a = b) = c) : EvT (tTest (tOp rEq ta tb)) σ H c := et_is (et_eq h1 h2 hs) hb
theorem et_orT {t u : TT} (h : EvT t σ H true) : EvT (tOr t u) σ H true := fun H1 e Q q => h H1 e _ q
theorem et_orF {t u : TT} {b : Bool} (h : EvT t σ H false) (h2 : EvT u σ H b) : EvT (tOr t u) σ H b := et_or h fun _ => h2
theorem q_asg3 {t : Addr} {x y z : V} {i j m : Nat} {tz : TS} (h : Ev te σ H (.ref t)) (ht : SqT K H t [x, y, z]) (k : ∀ H1, Ex H H1 → tz D (((σ.set i (some x)).set j (some y)).set m (some z)) H1) : tSeq (tAsg te (gTup K 3 (gCons (gName i) (gCons (gName j) (gCons (gName m) gNil))))) tz D σ H := s_asg3 (D := { D with nx := tz D }) h ht k
theorem q_pop {l : Addr} {xs : List V} {x : V} {i : Nat} {tz : TS} (hl : H l = some (.lst (xs ++ [x]))) (ha : Ev ta σ H (.ref l)) (k : ∀ H1, Ex H H1 → tz D (σ.set i (some x)) (upd H1 l (.lst xs))) : tSeq (tAsg (tBM0 K "list" rPop ta) (gName i)) tz D σ H := s_pop (D := { D with nx := tz D }) hl ha k
theorem q_dput {a : Addr} {k : L2.Key} {kvs : List (L2.Key × V)} {v : V} {tz : TS} (hv : Ev tv σ H v) (hd : Ev td σ H (.ref a)) (hy : Ev ty σ H (kV k)) (h : H a = some (.dK kvs)) (hl : kvs.length < 100000) (kk : ∀ H1, Ex H H1 → tz D σ (upd H1 a (.dK (putK kvs k v)))) : tSeq (sDPut td ty tv) tz D σ H := s_dput (D := { D with nx := tz D }) hv hd hy h hl kk
theorem s_forNT {g : L2.TG} {tu : TS} {xs : List V} (h : EvU te σ H xs) (Pv : Addr → Nat → L2.St → Hp → Prop) (h0 : ∀ p H1, H p = none → Ex H H1 → H1 p = some (.tup xs) → Pv p 0 σ H1) (hl : ∀ p i σ' H', Pv p i σ' H' → H' p = some (.tup xs))
    (hs : ∀ p i x σ' H', xs[i]? = some x → Pv p i σ' H' → g x σ' H' fun σ2 H2 => tu { D with nx := Pv p (i + 1), ct := Pv p (i + 1), bk := D.nx } σ2 H2) (hd : ∀ p σ' H', Pv p xs.length σ' H' → D.nx σ' H') : tFor (iTup K te) g tu D σ H :=
  h H (Ex.refl H) _ fun p H1 hp e h1 => ⟨p, rfl, ⟨xs, st_of h1⟩, for_tup (Pv p) (h0 p H1 hp e h1) (fun i σ' H' _ z => st_of (hl p i σ' H' z)) (hs p) (hd p)⟩
end
/-! ### comes_to_end -/
/-- what does not stop a way: all but a call of what isn't known -/
def okS (kn : Str → Bool) : Sh → Bool
  | .C w => kn w
  | _ => true
def kn (kvs : List (L2.Key × V)) (w : Str) : Bool := (valV kvs (.inr w)).isSome
def spEnds (K : PySem.W.Frag) : Sp := fun vs H Q _ => ∃ r d xs ys ss kvs, vs = [.ref r, .ref d] ∧ SqL K H r ys ∧ RowsL K xs ys H ∧ IsB K H ss xs ∧ ss.all Sh.good = true ∧ ss.length ≤ 100 ∧ Rd H d (.dK kvs) ∧ RetV (.bl (ss.all (okS (kn kvs)))) H Q
def Nends : List Str := ["rows", "known", "line", "seen", "here", "statement", "yes", "no", "there"]
theorem sc_ends : FnScope Nends ["rows", "known"] (defScope (top 45)) := ⟨rfl, rfl, rfl, by decide +kernel, rfl, by decide +kernel, by decide +kernel⟩
section
variable {P : Program} {w : World} {K : PySem.W.Frag} {mg : Str → Option Value} {base : Heap} {f : Addr} {fd : FuncData}
theorem ok_ends (F : FnP K "comes_to_end" (top 45) [] f fd) (gL : mg "len" = none) : FnOk P w K mg base CX0 1 f fd ["rows", "known"] (spEnds K) := by
  refine F.ok sc_ends (fun vs H Q E h => ?_) (fun cdv A outer s H vs Q E hr h => ?_)
  · obtain ⟨r, d, xs, ys, ss, kvs, rfl, _⟩ := h
    rfl
  · obtain ⟨r, d, xs, ys, ss, kvs, rfl, hr1, hR, hB, hg, hn, hd, k⟩ := h
    refine ⟨_, pss_cons (by
        exact ps_par (i := 2) (j := 3) rfl sc_ends.nd rfl rfl (by decide) rfl rfl (pa_cons (pe_lst (pa_cons pe_int pa_nil)) (pa_cons (pe_disp (pps_cons pe_int pe_bl pps_nil) (by rfl) (by rfl) (fun z => by cases z) (by decide)) pa_nil)) (by rfl)) <| pss_cons (by
        refine ps_while (passes_of rfl) (pt_cmpR op_gt (pe_callB call_len_seq (by rfl) gL PySem.boot_len (pa_cons (pv 2) pa_nil)) pe_int (nomark _)) (pss_cons (by
          exact ps_asg (pe_bm0 PySem.F.plainAttrs_list PySem.F.slot_list_pop PySem.F.type_list_pop mt_pop (pv 2)) (pg_name (i := 4) sc_ends.nd rfl (Or.inl rfl))) <| pss_cons (by
          exact ps_if (pt_cmpR op_eq (pv 4) (pe_callB call_len_seq (by rfl) gL PySem.boot_len (pa_cons (pv 0) pa_nil)) (nomark _)) (pss_one (ps_ret pe_bl)) pss_nil) <| pss_cons (by
          exact ps_asg (pe_ix ix_list (pv 0) (pv 4) (fun _ _ => rfl)) (pg_tup rfl (pgs_cons (pg_name (i := 5) sc_ends.nd rfl (Or.inl rfl)) (pgs_cons (pg_name (i := 6) sc_ends.nd rfl (Or.inl rfl)) (pgs_cons (pg_name (i := 7) sc_ends.nd rfl (Or.inl rfl)) pgs_nil))))) <| pss_one (by
          refine ps_if (PW.pt (pw_or (pt_cmpR op_ne (pe_ix ix_tup (pv 5) pe_int (fun _ _ => rfl)) pe_str (nomark _)) (pw_or1 (pt_cmp (pc_din (hu1 hr) (pe_ix ix_tup (pv 5) pe_int (fun _ _ => rfl)) (pv 1)))))) (pss_one (by
            refine ps_for (passes_of rfl) rfl (pi_tup (pe_tup (pa_cons (pv 6) (pa_cons (pv 7) pa_nil)))) (pg_name (i := 8) sc_ends.nd rfl (Or.inl rfl)) (pss_one (by
              refine ps_if (pt_cmp (pc_dnotin (hu1 hr) (pv 8) (pv 3))) (pss_cons (by
                exact ps_dput (hu1 hr) (pv 3) (pv 8) pe_bl rfl) <| pss_one (by
                exact ps_expr (pe_bm PySem.F.plainAttrs_list PySem.F.slot_list_append PySem.F.type_list_append mt_append (pv 2) (pa_cons (pv 8) pa_nil)))) pss_nil)))) pss_nil))) <| pss_one (by
        exact ps_ret pe_bl), ?_⟩
    have hxl : xs.length = ss.length := hB.len
    have hyl : ys.length = ss.length := hR.1.trans hxl
    refine ⟨sz_of (n := 1) (by decide), fun l hl m hm => ?_⟩
    refine ⟨upd_same, [(.inl 0, .bl true)], rfl, by decide, .ref l, .ref m, rfl, ?_⟩
    have hm0 : H m = none := fresh_back (Ex.new hl) hm
    have hlm : l ≠ m := fun z => by rw [← z, upd_same] at hm; cases hm
    have hml : m ≠ l := Ne.symm hlm
    refine q_while (fun mm σ' H' => ∃ p4 p5 p6 p7 p8 sv, σ' = [some (.ref r), some (.ref d), some (.ref l), some (.ref m), p4, p5, p6, p7, p8] ∧ Ex H H' ∧ H' m = some (.dK sv) ∧
      ((∃ i : Nat, i ≤ ss.length ∧ mm = ss.length - i + 1 ∧ H' l = some (.lst [.int (i : Nat)]) ∧ (∀ j : Int, (valV sv (.inl j)).isSome = decide (0 ≤ j ∧ j ≤ i)) ∧ sv.length ≤ i + 1 ∧ (ss.take i).all (okS (kn kvs)) = true) ∨ (mm = 0 ∧ H' l = some (.lst []) ∧ ss.all (okS (kn kvs)) = false))) (ss.length - 0 + 1) ?_ ?_
    · refine ⟨none, none, none, none, none, _, rfl, Ex.mut ((Ex.new hl).trans (Ex.new hm)) hm0, upd_same, .inl ⟨0, Nat.zero_le _, rfl, ?_, fun j => ?_, by decide, rfl⟩⟩
      · rw [upd_ne hlm, upd_ne hlm, upd_same]
        rfl
      · show (valV (putK ([] : List (L2.Key × V)) (.inl 0) (.bl true)) (.inl j)).isSome = _
        rw [valV_put]
        by_cases z : j = 0
        · subst z
          rfl
        · rw [if_neg (fun q => z (Sum.inl.inj q))]
          exact (decide_eq_false (by omega)).symm
    · rintro mm σ' H' ⟨p4, p5, p6, p7, p8, sv, rfl, e, hsv, hcase⟩
      rcases hcase with ⟨i, hi, rfl, hl', hsn, hsl, htk⟩ | ⟨rfl, hl', hall⟩
      · refine ⟨true, et_test (ev_is (ev_op (x := .int 1) (y := .int 0) (ev_lenQ (ev_var rfl) (.inl (sq_of hl'))) ev_c rv_I0) rfl), fun _ H1 e1 => ⟨_, fun σ2 H2 z => z, ?_⟩, fun z => nomatch z⟩
        refine q_pop (xs := []) (e1 l _ hl') (ev_var rfl) fun H2 e2 => ?_
        have e02 : Ex H (upd H2 l (.lst [])) := Ex.mut ((e.trans e1).trans e2) hl
        refine q_when (et_eq (ev_var rfl) (ev_lenQ (ev_var rfl) (.inl (ex_l e02 hr1))) rfl) (fun hb H3 e3 => ?_) fun hb H3 e3 => ?_
        · have hin : (i : Int) = ys.length := V.int.inj (of_decide_eq_true hb)
          have hin : i = ss.length := by omega
          rw [hin, List.take_length] at htk
          rw [htk] at k
          exact s_ret ev_c fun H4 e4 => k.go ((e02.trans e3).trans e4)
        · have hin : i < ss.length := by
            have : ¬ (V.int (i : Nat) = V.int (ys.length : Nat)) := of_decide_eq_false hb
            have : i ≠ ys.length := fun z => this (by rw [z])
            omega
          have hy1 : ys[i]? = some ys[i] := List.getElem?_eq_getElem (by omega)
          have hx1 : xs[i]? = some xs[i] := List.getElem?_eq_getElem (by omega)
          obtain ⟨t, ht, row⟩ := hR.2 i _ _ hx1 hy1
          rw [ht] at hy1
          refine q_asg3 (te := tOp (rIxL K) (tVar 0) (tVar 4)) (ev_ixL (ev_var rfl) (ev_var rfl) (ex_l (e02.trans e3) hr1) hy1) (ex_t (e02.trans e3) row) fun H4 e4 => ?_
          obtain ⟨si, hsi, his⟩ := hB.at hx1
          have hgi : si.good = true := List.all_eq_true.mp hg si (List.mem_of_getElem? hsi)
          have e4' : Ex H H4 := (e02.trans e3).trans e4
          have hl4 : H4 l = some (.lst []) := e4 l _ (e3 l _ upd_same)
          have hm4 : H4 m = some (.dK sv) := e4 m _ (e3 m _ (by
            rw [upd_ne hml]
            exact e2 m _ (e1 m _ hsv)))
          have tk1 : (ss.take (i + 1)).all (okS (kn kvs)) = okS (kn kvs) si := by
            rw [List.take_add_one, hsi]
            simp [htk]
          have hd4 : ∀ {H5 : Hp}, Ex H4 H5 → Rd H5 d (.dK kvs) := fun z => rd_ex (e4'.trans z) hd
          refine s_when (b := okS (kn kvs) si) ?_ (fun hb H5 e5 => ?_) fun hb H5 e5 => ?_
          · cases si with
            | P =>
              obtain ⟨t2, q2, ex, h1, h2⟩ := his
              rw [ex]
              exact et_orT (et_nes (ev_t (j := 0) rfl (ex_t e4' h1) rfl) ev_c (by decide))
            | M =>
              obtain ⟨t2, p2, q2, ex, h1, h2, h3⟩ := his
              rw [ex]
              exact et_orT (et_nes (ev_t (j := 0) rfl (ex_t e4' h1) rfl) ev_c (by decide))
            | C wc =>
              obtain ⟨t2, p2, q2, r2, u2, ex, h1, h2, h3, h4, h5⟩ := his
              rw [ex]
              exact et_orF (et_nes (ev_t (j := 0) rfl (ex_t e4' h1) rfl) ev_c (by decide)) (et_B (ev_din (k := .inr wc) (ev_t (j := 2) rfl (ex_t e4' h1) rfl) (ev_var rfl) (rd_ex e4' hd)))
            | O0 => cases hgi
            | O1 => cases hgi
            | O2 => cases hgi
            | O3 => cases hgi
          · refine s_forNT (xs := [.int ((i : Nat) + 1), .int ((i : Nat) + 1)]) (eu_tup (ea_cons (ev_var rfl) (ea_cons (ev_var rfl) ea_nil)) (by simp)) (fun p n σ' H' => ∃ p8 sv', σ' = [some (.ref r), some (.ref d), some (.ref l), some (.ref m), some (.int (i : Nat)), some xs[i], some (.int ((i : Nat) + 1)), some (.int ((i : Nat) + 1)), p8] ∧ Ex H H' ∧ H p = none ∧ p ≠ l ∧ p ≠ m ∧ H' p = some (.tup [.int ((i : Nat) + 1), .int ((i : Nat) + 1)]) ∧ H' m = some (.dK sv') ∧
              ((n = 0 ∧ H' l = some (.lst []) ∧ sv' = sv) ∨ (1 ≤ n ∧ H' l = some (.lst [.int ((i : Nat) + 1)]) ∧ (∀ j : Int, (valV sv' (.inl j)).isSome = decide (0 ≤ j ∧ j ≤ (i : Int) + 1)) ∧ sv'.length ≤ i + 2))) ?_ (fun p n σ' H' z => ?_) ?_ ?_
            · intro p H6 hp e6 h6
              have hl5 := e5 l _ hl4
              have hm5 := e5 m _ hm4
              exact ⟨_, sv, rfl, (e4'.trans e5).trans e6, fresh_back (e4'.trans e5) hp, (fun z => by rw [z, hl5] at hp; cases hp), (fun z => by rw [z, hm5] at hp; cases hp), h6, e6 m _ hm5, .inl ⟨rfl, e6 l _ hl5, rfl⟩⟩
            · obtain ⟨p8, sv', _, _, _, _, _, z, _⟩ := z
              exact z
            · rintro p n x σ' H6 hx ⟨p8, sv', rfl, e6, hp, hpl, hpm, h6, hm6, hc⟩
              have hx1 : x = .int ((i : Nat) + 1) := by
                match n, hx with
                | 0, hx => exact (Option.some.inj hx).symm
                | 1, hx => exact (Option.some.inj hx).symm
                | n + 2, hx => simp at hx
              subst hx1
              rcases hc with ⟨rfl, hl6, rfl⟩ | ⟨hn1, hl6, hs6, hz6⟩
              · refine s_when (b := true) (et_B (ev_is (ev_dnotin (k := .inl ((i : Nat) + 1)) (ev_var rfl) (ev_var rfl) (.inl hm6)) ?_)) (fun _ H7 e7 => ?_) fun z => nomatch z
                · rw [hsn, decide_eq_false (by omega)]
                  rfl
                · refine q_dput (k := .inl ((i : Nat) + 1)) ev_c (ev_var rfl) (ev_var rfl) (e7 m _ hm6) (by omega) fun H8 e8 => ?_
                  refine s_app (xs := []) (by rw [upd_ne hlm]; exact e8 l _ (e7 l _ hl6)) (ev_var rfl) (ev_var rfl) (by simp) fun H9 e9 => ?_
                  have e09 : Ex H H9 := (Ex.mut ((e6.trans e7).trans e8) hm0).trans e9
                  refine ⟨_, _, rfl, Ex.mut e09 hl, hp, hpl, hpm, ?_, by rw [upd_ne hml]; exact e9 m _ upd_same, .inr ⟨Nat.le_refl _, upd_same, fun j => ?_, ?_⟩⟩
                  · rw [upd_ne hpl]
                    refine e9 p _ ?_
                    rw [upd_ne hpm]
                    exact e8 p _ (e7 p _ h6)
                  · rw [valV_put]
                    by_cases z : (Sum.inl j : L2.Key) = .inl ((i : Nat) + 1)
                    · rw [if_pos z]
                      have z := Sum.inl.inj z
                      exact (decide_eq_true (by omega)).symm
                    · rw [if_neg z, hsn]
                      have z : j ≠ (i : Nat) + 1 := fun q => z (by rw [q])
                      exact decide_eq_decide.mpr (by omega)
                  · have := length_putK sv' (Sum.inl ((i : Nat) + 1)) (.bl true)
                    omega
              · refine s_when (b := false) (et_B (ev_is (ev_dnotin (k := .inl ((i : Nat) + 1)) (ev_var rfl) (ev_var rfl) (.inl hm6)) ?_)) (fun z => nomatch z) fun _ H7 e7 => ?_
                · rw [hs6]
                  have : decide ((0 : Int) ≤ (i : Int) + 1 ∧ (i : Int) + 1 ≤ (i : Int) + 1) = true := decide_eq_true (by omega)
                  rw [this]
                  rfl
                · exact ⟨_, sv', rfl, e6.trans e7, hp, hpl, hpm, e7 p _ h6, e7 m _ hm6, .inr ⟨by omega, e7 l _ hl6, hs6, hz6⟩⟩
            · rintro p σ' H6 ⟨p8, sv', rfl, e6, hp, hpl, hpm, h6, hm6, hc⟩
              rcases hc with ⟨z, _⟩ | ⟨_, hl6, hs6, hz6⟩
              · cases z
              · refine ⟨ss.length - (i + 1) + 1, by omega, _, _, _, _, _, sv', rfl, e6, hm6, .inl ⟨i + 1, hin, rfl, hl6, fun j => ?_, hz6, tk1.trans hb⟩⟩
                rw [hs6]
                rfl
          · refine ⟨0, by omega, _, _, _, _, _, sv, rfl, e4'.trans e5, e5 m _ hm4, .inr ⟨rfl, e5 l _ hl4, ?_⟩⟩
            rw [List.all_eq_false]
            exact ⟨si, List.mem_of_getElem? hsi, by rw [hb]; decide⟩
      · refine ⟨false, et_test (ev_is (ev_op (x := .int 0) (y := .int 0) (ev_lenQ (ev_var rfl) (.inl (sq_of hl'))) ev_c rv_I0) rfl), fun z => (nomatch z), fun _ H1 e1 => ?_⟩
        rw [hall] at k
        exact s_ret ev_c fun H4 e4 => k.go ((e.trans e1).trans e4)
end
end Cp

namespace Cp
open PySem PySem.Spec PyProof.Rows L2 Evl GN
/-- all that can be read of H can be read of H' -/
def Rx (H H' : Hp) : Prop := ∀ a u, Rd H a u → Rd H' a u
theorem ex_rx {H H' : Hp} (e : Ex H H') : Rx H H' := fun a u h => ex_rd e h
theorem Rx.trans {H H1 H2 : Hp} (x : Rx H H1) (y : Rx H1 H2) : Rx H H2 := fun a u h => y a u (x a u h)
theorem Rx.l {K : PySem.W.Frag} {H H' : Hp} {a : Addr} {xs : List V} (e : Rx H H') (h : SqL K H a xs) : SqL K H' a xs := h.elim (fun z => .inl (e _ _ z)) .inr
theorem Rx.t {K : PySem.W.Frag} {H H' : Hp} {a : Addr} {xs : List V} (e : Rx H H') (h : SqT K H a xs) : SqT K H' a xs := h.elim (fun z => .inl (e _ _ z)) .inr
theorem rx_frz {H : Hp} {c : Addr} {u : HO} {od : Obj} (h : H c = some u) (m : Mut (some u)) : Rx H (upd H c (.frz od u)) := fun a v hv => by
  by_cases z : a = c
  · subst z
    rcases hv with hv | ⟨o, hv⟩
    · rw [h] at hv
      cases hv
      exact .inr ⟨od, upd_same⟩
    · rw [h] at hv
      cases hv
      exact m.elim
  · rcases hv with hv | ⟨o, hv⟩
    · exact .inl (by rw [upd_ne z]; exact hv)
    · exact .inr ⟨o, by rw [upd_ne z]; exact hv⟩
theorem ex_frz {H H' : Hp} {c : Addr} {u' : HO} (e : Ex H H') : Ex (upd H c u') (upd H' c u') := fun a o h => by
  by_cases z : a = c
  · subst z
    rw [upd_same] at h ⊢
    exact h
  · rw [upd_ne z] at h ⊢
    exact e a o h
theorem ex_thaw {H H' : Hp} {c : Addr} {u u' : HO} (h : H c = some u) (e : Ex (upd H c u') H') : Ex H (upd H' c u) := fun a o ho => by
  by_cases z : a = c
  · subst z
    rw [upd_same, ← h, ho]
  · rw [upd_ne z]
    exact e a o (by rw [upd_ne z]; exact ho)
theorem IsS.rx {K : PySem.W.Frag} {H H' : Hp} (e : Rx H H') : ∀ {s : Sh} {v : V}, IsS K H s v → IsS K H' s v
  | .P, _, ⟨t, q, a, b, c⟩ => ⟨t, q, a, e.t b, e.t c⟩
  | .M, _, ⟨t, p, q, a, b, c, d⟩ => ⟨t, p, q, a, e.t b, e.t c, e.t d⟩
  | .C _, _, ⟨t, p, q, r, u, a, b, c, d, f, g⟩ => ⟨t, p, q, r, u, a, e.t b, e.t c, e.t d, e.t f, e.t g⟩
  | .O0, _, ⟨t, q, a, b, c⟩ => ⟨t, q, a, e.t b, e.t c⟩
  | .O1, _, ⟨t, a, b⟩ => ⟨t, a, e.t b⟩
  | .O2, _, ⟨t, q, a, b, c⟩ => ⟨t, q, a, e.t b, e.t c⟩
  | .O3, _, ⟨t, q, a, b, c⟩ => ⟨t, q, a, e.t b, e.t c⟩
theorem IsB.rx {K : PySem.W.Frag} {H H' : Hp} (e : Rx H H') : ∀ {ss : List Sh} {xs : List V}, IsB K H ss xs → IsB K H' ss xs
  | [], _, h => h
  | _ :: _, _, ⟨v, vs, a, b, c⟩ => ⟨v, vs, a, b.rx e, IsB.rx e c⟩
theorem RowsL.rx {K : PySem.W.Frag} {H H' : Hp} {xs ys : List V} (e : Rx H H') (h : RowsL K xs ys H) : RowsL K xs ys H' := ⟨h.1, fun i x y a b => let ⟨t, p, q⟩ := h.2 i x y a b; ⟨t, p, e.t q⟩⟩
/-- the rows of a body, at r -/
def RowsOf (K : PySem.W.Frag) (H : Hp) (r : Addr) (ss : List Sh) : Prop := ∃ xs ys, SqL K H r ys ∧ RowsL K xs ys H ∧ IsB K H ss xs ∧ ss.all Sh.good = true ∧ ss.length ≤ 100
theorem RowsOf.rx {K : PySem.W.Frag} {H H' : Hp} {r : Addr} {ss : List Sh} (e : Rx H H') : RowsOf K H r ss → RowsOf K H' r ss
  | ⟨xs, ys, a, b, c, d, f⟩ => ⟨xs, ys, e.l a, b.rx e, c.rx e, d, f⟩
/-- the code: names, rows, bodies -/
abbrev Ent := Str × Addr × List Sh
def entK (e : Ent) : L2.Key × V := (.inr e.1, .ref e.2.1)
def CodeOf (K : PySem.W.Frag) (H : Hp) (c : Addr) (es : List Ent) : Prop := H c = some (.dK (es.map entK)) ∧ (es.map (·.1)).Nodup ∧ es.length ≤ 10 ∧ ∀ e ∈ es, RowsOf K H e.2.1 e.2.2
theorem valV_ent : ∀ {es : List Ent} {e : Ent}, (es.map (·.1)).Nodup → e ∈ es → valV (es.map entK) (.inr e.1) = some (.ref e.2.1)
  | [], _, _, h => by simp at h
  | a :: es, e, hn, h => by
    rw [List.map_cons, List.nodup_cons] at hn
    rcases List.mem_cons.mp h with z | z
    · subst z
      exact valV_pos rfl
    · have ne : ¬ (entK a).1 = .inr e.1 := fun q => hn.1 (by
        have q : a.1 = e.1 := Sum.inr.inj q
        rw [q]
        exact List.mem_map_of_mem z)
      rw [List.map_cons, valV_neg ne]
      exact valV_ent hn.2 z
/-- least: every closed set holds it -/
def Least (es : List Ent) (F : Str → Bool) : Prop := ∀ G : Str → Bool, (∀ e ∈ es, e.2.2.all (okS G) = true → G e.1 = true) → ∀ w, F w = true → G w = true
def Closed (es : List Ent) (F : Str → Bool) : Prop := ∀ e ∈ es, e.2.2.all (okS F) = true → F e.1 = true
def mu (es : List Ent) (F : Str → Bool) : Nat := (es.filter fun e => !F e.1).length
theorem okS_mono {F G : Str → Bool} (h : ∀ w, F w = true → G w = true) {ss : List Sh} (a : ss.all (okS F) = true) : ss.all (okS G) = true := by
  rw [List.all_eq_true] at a ⊢
  intro s hs
  have z := a s hs
  cases s with
  | C w => exact h w z
  | _ => rfl
theorem least_put {es : List Ent} {F F' : Str → Bool} (h : Least es F) {e : Ent} (he : e ∈ es) (ha : e.2.2.all (okS F) = true) (hF : ∀ w, F' w = if w = e.1 then true else F w) : Least es F' := fun G hG w hw => by
  rw [hF] at hw
  by_cases z : w = e.1
  · rw [z]
    exact hG e he (okS_mono (h G hG) ha)
  · rw [if_neg z] at hw
    exact h G hG w hw
theorem mu_put {es : List Ent} {F F' : Str → Bool} {e : Ent} (he : e ∈ es) (hn : F e.1 = false) (hF : ∀ w, F' w = if w = e.1 then true else F w) : mu es F' < mu es F := by
  unfold mu
  have hle : ∀ l : List Ent, (l.filter fun e => !F' e.1).length ≤ (l.filter fun e => !F e.1).length := fun l => by
    induction l with
    | nil => exact Nat.le_refl _
    | cons a l ih =>
      rw [List.filter_cons, List.filter_cons]
      have z := hF a.1
      by_cases q : a.1 = e.1
      · rw [if_pos q] at z
        rw [z]
        simp only [Bool.not_true, Bool.false_eq_true, if_false]
        split <;> simp <;> omega
      · rw [if_neg q] at z
        rw [z]
        split <;> simp <;> omega
  induction es with
  | nil => simp at he
  | cons a l ih =>
    rw [List.filter_cons, List.filter_cons]
    have z := hF a.1
    by_cases q : a.1 = e.1
    · rw [if_pos q] at z
      rw [z, q, hn]
      have := hle l
      simp only [Bool.not_true, Bool.not_false, Bool.false_eq_true, if_false, if_true, List.length_cons]
      omega
    · rw [if_neg q] at z
      have hl : e ∈ l := by
        rcases List.mem_cons.mp he with r | r
        · exact absurd (by rw [r]) q
        · exact r
      have := ih hl
      rw [z]
      split <;> simp <;> omega
theorem kn_put (kvs : List (L2.Key × V)) (w : Str) (v : V) : ∀ w', kn (putK kvs (.inr w) v) w' = if w' = w then true else kn kvs w' := fun w' => by
  unfold kn
  rw [valV_put]
  by_cases z : w' = w
  · rw [if_pos (by rw [z]), if_pos z]
    rfl
  · rw [if_neg (fun q => z (Sum.inr.inj q)), if_neg z]
/-! ### returning -/
def spRet (K : PySem.W.Frag) : Sp := fun vs H Q _ => ∃ c es, vs = [.ref c] ∧ CodeOf K H c es ∧ ∀ p kvs H2, H p = none → Ex H H2 → H2 p = some (.dK kvs) → Least es (kn kvs) → Closed es (kn kvs) → Q (.ref p) H2
theorem sc_ret : FnScope ["rows_by", "found", "grown", "name"] ["rows_by"] (defScope (top 46)) := ⟨rfl, rfl, rfl, by decide +kernel, rfl, by decide +kernel, by decide +kernel⟩
section
variable {P : Program} {w : World} {K : PySem.W.Frag} {mg : Str → Option Value} {base : Heap} {f : Addr} {fd : FuncData}
theorem ok_ret {fE : Addr} {fdE : FuncData} (F : FnP K "returning" (top 46) [] f fd) (GE : FnOk P w K mg base CX0 1 fE fdE ["rows", "known"] (spEnds K)) (gE : mg "comes_to_end" = some (.ref fE)) (kE : PySem.W.keepIn K (.ref fE) = true) (bE : Binds K fdE ["rows", "known"] []) :
    FnOk P w K mg base CX0 2 f fd ["rows_by"] (spRet K) := by
  refine F.ok sc_ret (fun vs H Q E h => ?_) (fun cdv A outer s H vs Q E hr h => ?_)
  · obtain ⟨c, es, rfl, _⟩ := h
    rfl
  · obtain ⟨c, es, rfl, ⟨hc, hnd, hlen, hR⟩, k⟩ := h
    refine ⟨_, pss_cons (by
        exact ps_par (i := 1) (j := 2) rfl sc_ret.nd rfl rfl (by decide) rfl rfl (pa_cons pe_dnewK (pa_cons pe_bl pa_nil)) (by rfl)) <| pss_cons (by
        refine ps_while (passes_of rfl) (pt_val (pv 2) (by intro _; rfl)) (pss_cons (by
          exact ps_asg pe_bl (pg_name (i := 2) sc_ret.nd rfl (Or.inl rfl))) <| pss_one (by
          refine ps_lock (ps_for (passes_of rfl) rfl (pi_keys (pv 0)) (pg_name (i := 3) sc_ret.nd rfl (Or.inl rfl)) (pss_one (by
            refine ps_if (PW.pt (pw_and (pt_cmp (pc_dnotin (hu1 hr) (pv 3) (pv 1))) (pw_and1 (pt_val (by exact pe_call GE hr (by rfl) gE kE bE .nil pass0 (pa_cons (pe_dget (hu1 hr) (pv 0) (pv 3) (fun _ _ => rfl)) (pa_cons (pv 1) pa_nil))) (by intro _; rfl))))) (pss_cons (by
              exact ps_dput (hu1 hr) (pv 1) (pv 3) pe_bl rfl) <| pss_one (by
              exact ps_asg pe_bl (pg_name (i := 2) sc_ret.nd rfl (Or.inl rfl)))) pss_nil)))))) <| pss_one (by
        exact ps_ret (pv 1)), ?_⟩
    intro p hp
    refine ⟨.ref p, .bl true, rfl, ?_⟩
    have mu_le : ∀ F, mu es F ≤ es.length := fun F => List.length_filter_le _ _
    refine q_while (fun mm σ' H' => ∃ g p3 kvs, σ' = [some (.ref c), some (.ref p), some (.bl g), p3] ∧ Ex H H' ∧ H' p = some (.dK kvs) ∧ kvs.length + mu es (kn kvs) ≤ es.length ∧ Least es (kn kvs) ∧ (g = false → Closed es (kn kvs)) ∧ mm = if g = true then mu es (kn kvs) + 1 else 0) (mu es (kn []) + 1) ⟨true, none, [], rfl, Ex.new hp, upd_same, by have := mu_le (kn []); simp; omega, (fun G hG w hw => by cases hw), fun z => (nomatch z), rfl⟩ ?_
    rintro mm σ' H' ⟨g, p3, kvs, rfl, e, hkv, hlen2, hleast, hcl, rfl⟩
    refine ⟨g, et_B (ev_var rfl), fun hg H1 e1 => ?_, fun hg H1 e1 => ?_⟩
    · subst hg
      refine ⟨_, fun σ2 H2 z => z, ?_⟩
      refine q_asg (v := .bl false) ev_c fun H2 e2 => ?_
      have hc2 : H2 c = some (.dK (es.map entK)) := e2 c _ (e1 c _ (e c _ hc))
      have hp2 : H2 p = some (.dK kvs) := e2 p _ (e1 p _ hkv)
      have hpc : p ≠ c := fun z => by rw [z, hc] at hp; cases hp
      refine ⟨c, _, hc2, trivial, fun od => ?_⟩
      have ef : Ex (upd H c (.frz od (.dK (es.map entK)))) (upd H2 c (.frz od (.dK (es.map entK)))) := ex_frz ((e.trans e1).trans e2)
      refine s_forW (H0 := upd H c (.frz od (.dK (es.map entK)))) (n := (es.map entK).length) (Y := fun i H x H' => H' = H ∧ ∃ k v, (es.map entK)[i]? = some (k, v) ∧ x = kV k) ⟨Itk c od (es.map entK), fun H => H c = some (.frz od (.dK (es.map entK))), ⟨fun i _ hi q => ⟨q, hi⟩, fun _ q => ⟨q, Nat.le_refl _⟩, fun i H x H' hi q y => y⟩, fun H1 e1 => e1 c _ upd_same, fun H1 e1 R q => ⟨.ref c, rfl, c, od, rfl, .inl ⟨_, e1 c _ upd_same, q H1 (Ex.refl _)⟩⟩⟩ ef
        (fun i σ' H' => ∃ g p3 kvs', σ' = [some (.ref c), some (.ref p), some (.bl g), p3] ∧ Ex (upd H c (.frz od (.dK (es.map entK)))) H' ∧ H' p = some (.dK kvs') ∧ kvs'.length + mu es (kn kvs') ≤ es.length ∧ Least es (kn kvs') ∧ mu es (kn kvs') ≤ mu es (kn kvs) ∧ (g = true → mu es (kn kvs') < mu es (kn kvs)) ∧
          (g = false → ∀ (j : Nat) e, j < i → es[j]? = some e → e.2.2.all (okS (kn kvs')) = true → kn kvs' e.1 = true)) ?_ ?_ ?_ ?_
      · intro H3 e3
        exact ⟨false, _, kvs, rfl, ef.trans e3, e3 p _ (by rw [upd_ne hpc]; exact hp2), hlen2, hleast, Nat.le_refl _, fun z => (nomatch z), fun _ j e hj => absurd hj (Nat.not_lt_zero _)⟩
      · rintro i σ' H3 _ ⟨_, _, _, _, z, _⟩
        exact z
      · rintro i x σ' H3 H4 hi ⟨g, p3, kvs', rfl, e3, hp3, hl3, hle3, hm3, hg3, hc3⟩ ⟨rfl, kk, v, hkk, rfl⟩
        rw [List.getElem?_map] at hkk
        obtain ⟨en, hen, hee⟩ := Option.map_eq_some_iff.mp hkk
        cases hee
        have hmem : en ∈ es := List.mem_of_getElem? hen
        have rxf : Rx H (upd H c (.frz od (.dK (es.map entK)))) := rx_frz hc trivial
        refine s_when (b := !(kn kvs' en.1) && en.2.2.all (okS (kn kvs'))) (et_and (et_B (ev_dnotin (k := .inr en.1) (ev_var rfl) (ev_var rfl) (.inl hp3))) fun _ => et_B (ev_call (ea_cons (ev_dget (k := .inr en.1) (ev_var rfl) (ev_var rfl) (.inr ⟨od, e3 c _ upd_same⟩) (valV_ent hnd hmem)) (ea_cons (ev_var rfl) ea_nil)) (RetV.call fun H5 e5 Q E q => ?_))) (fun hb H5 e5 => ?_) fun hb H5 e5 => ?_
        · obtain ⟨xs, ys, a1, a2, a3, a4, a5⟩ := (hR en hmem).rx (rxf.trans (ex_rx (e3.trans e5)))
          exact ⟨en.2.1, p, xs, ys, en.2.2, kvs', rfl, a1, a2, a3, a4, a5, .inl (e5 p _ hp3), q⟩
        · have hb := Bool.and_eq_true_iff.mp hb
          have hn : kn kvs' en.1 = false := by
            cases z : kn kvs' en.1 with
            | false => rfl
            | true => rw [z] at hb; exact absurd hb.1 (by decide)
          have hmu := mu_put hmem hn (kn_put kvs' en.1 (.bl true))
          have hlp := length_putK kvs' (Sum.inr en.1) (.bl true)
          have hpH : (upd H c (.frz od (.dK (es.map entK)))) p = none := by rw [upd_ne hpc]; exact hp
          refine q_dput (k := .inr en.1) ev_c (ev_var rfl) (ev_var rfl) (e5 p _ hp3) (by omega) fun H6 e6 => ?_
          refine s_asg (v := .bl true) ev_c fun H7 e7 => ?_
          exact ⟨true, _, _, rfl, (Ex.mut ((e3.trans e5).trans e6) hpH).trans e7, e7 p _ upd_same, by omega, least_put hle3 hmem hb.2 (kn_put kvs' en.1 _), by omega, fun _ => by omega, fun z => (nomatch z)⟩
        · refine ⟨g, _, kvs', rfl, e3.trans e5, e5 p _ hp3, hl3, hle3, hm3, hg3, fun hgf j e' hj hej ha => ?_⟩
          by_cases hji : j < i
          · exact hc3 hgf j e' hji hej ha
          · have : j = i := by omega
            rw [this, hen] at hej
            cases hej
            rw [ha] at hb
            simpa using hb
      · rintro σ' H3 ⟨g, p3, kvs', rfl, e3, hp3, hl3, hle3, hm3, hg3, hc3⟩
        refine ⟨e3 c _ upd_same, if g = true then mu es (kn kvs') + 1 else 0, ?_, g, p3, kvs', rfl, ex_thaw hc e3, by rw [upd_ne hpc]; exact hp3, hl3, hle3, fun hgf e' he' ha => ?_, rfl⟩
        · rw [if_pos rfl]
          cases g with
          | true => have := hg3 rfl; simp; omega
          | false => simp
        · obtain ⟨j, hj⟩ := List.mem_iff_getElem?.mp he'
          have := (List.getElem?_eq_some_iff.mp hj).1
          exact hc3 hgf j e' (by rw [List.length_map]; omega) hj ha
    · exact s_ret (v := .ref p) (ev_var rfl) fun H2 e2 => k p kvs H2 hp ((e.trans e1).trans e2) (e2 p _ (e1 p _ hkv)) hleast (hcl hg)
end
end Cp

namespace Cp
open PySem PySem.Spec PyProof.Rows L2 Evl GN
/-! ### way_to_reading -/
/-- behind the mark at i stands a put -/
def spWay (K : PySem.W.Frag) : Sp := fun vs H Q _ => ∃ r g i ss, vs = [.ref r, g, .int (i : Nat), .int 0] ∧ RowsOf K H r ss ∧ ss[i]? = some .M ∧ ss[i + 1]? = some .P ∧ ∀ p H2, Ex H H2 → Q (.ref p) H2
def Nway : List Str := ["rows", "gives", "number", "done", "name", "first", "line", "seen", "way", "here", "statement", "yes", "no"]
theorem sc_way : FnScope Nway ["rows", "gives", "number", "done"] (defScope (top 44)) := ⟨rfl, rfl, rfl, by decide +kernel, rfl, by decide +kernel, by decide +kernel⟩
section
variable {P : Program} {w : World} {K : PySem.W.Frag} {mg : Str → Option Value} {base : Heap} {f : Addr} {fd : FuncData}
/-- the parts of the row of s at i -/
theorem rows_at {K : PySem.W.Frag} {H : Hp} {r : Addr} {ss : List Sh} {i : Nat} {s : Sh} (h : RowsOf K H r ss) (hi : ss[i]? = some s) : ∃ ys t v, SqL K H r ys ∧ ys.length = ss.length ∧ ys[i]? = some (.ref t) ∧ SqT K H t [v, .int ((i : Nat) + 1), .int ((i : Nat) + 1)] ∧ IsS K H s v := by
  obtain ⟨xs, ys, a, b, c, d, e⟩ := h
  have l1 := c.len
  have l2 := b.1
  have hl := (List.getElem?_eq_some_iff.mp hi).1
  have hx : xs[i]? = some xs[i] := List.getElem?_eq_getElem (by omega)
  have hy : ys[i]? = some ys[i] := List.getElem?_eq_getElem (by omega)
  obtain ⟨t, e1, e2⟩ := b.2 i _ _ hx hy
  obtain ⟨s', e3, e4⟩ := c.at hx
  rw [hi] at e3
  cases e3
  rw [e1] at hy
  exact ⟨ys, t, _, a, by omega, hy, e2, e4⟩
theorem ev_srcx {K : PySem.W.Frag} {σ : L2.St} {H : Hp} {ta : TA} {v : V} {E : XK} (h : EvA ta σ H [v]) (hv : IsS K H .M v) (h3 : σ[3]? = some (some (.int 0))) :
    Ev (tOp (rIxT K) (tOp (rIxT K) (tOp (rIxL K) (tCall (spSrc K) [] E ta) (tVar 3)) (tC (.int 0))) (tC (.int 0))) σ H (.str "x") := fun H1 e Q q => by
  refine eb_call (H := H) (Pp := SrcL K .M) h (fun H2 e2 Q E kq => ⟨.M, v, H, rfl, e2, hv, rfl, kq⟩) H1 e _ fun p ys H2 n e2 h2 z => ?_
  obtain ⟨u, rfl, t, q', rfl, s1, s2⟩ := z H2 (Kp.self (e.trans e2))
  exact ⟨.int 0, h3, p, _, 0, _, rfl, rfl, sq_of h2, rfl, t, _, 0, _, rfl, rfl, s1, rfl, q', _, 0, _, rfl, rfl, s2, rfl, q H2 e2⟩
theorem ev_first {K : PySem.W.Frag} {σ : L2.St} {H : Hp} {te : TE} {b : Bool} {n m : Str} {E : XK} (h : EvB te σ H (UseL K b n)) (h4 : σ[4]? = some (some (.str m))) : Ev (tCall (spFirst K) [] E (tCons te (tCons (tVar 4) tNil))) σ H (if n = m then .bl b else .non) := fun H1 e Q q =>
  h H1 e _ fun p ys H2 _ e2 h2 z => by
    obtain ⟨t, rfl, ht⟩ := z H2 (Kp.self (e.trans e2))
    exact ⟨.str m, h4, p, t, b, n, m, rfl, sq_of h2, ht, fun H3 e3 => q H3 (e2.trans e3)⟩
theorem ok_way {fS fU fF : Addr} {fdS fdU fdF : FuncData} {dsU : List Value} (F : FnP K "way_to_reading" (top 44) [] f fd) (GS : FnOk P w K mg base CX0 1 fS fdS ["statement"] (spSrc K)) (gS : mg "sources_of" = some (.ref fS)) (kS : PySem.W.keepIn K (.ref fS) = true) (bS : Binds K fdS ["statement"] [])
    (GU : FnOk P w K mg base CX0 2 fU fdU ["statement", "done"] (spUses K)) (gU : mg "uses_of" = some (.ref fU)) (kU : PySem.W.keepIn K (.ref fU) = true) (bU : Binds K fdU ["statement", "done"] []) (bU1 : Binds K fdU ["statement", "done"] dsU) (vU : Vals [.int (-1)] dsU)
    (GF : FnOk P w K mg base CX0 1 fF fdF ["uses", "name"] (spFirst K)) (gF : mg "first_use" = some (.ref fF)) (kF : PySem.W.keepIn K (.ref fF) = true) (bF : Binds K fdF ["uses", "name"] []) (gL : mg "len" = none) :
    FnOk P w K mg base CX0 3 f fd ["rows", "gives", "number", "done"] (spWay K) := by
  refine F.ok sc_way (fun vs H Q E h => ?_) (fun cdv A outer s H vs Q E hr h => ?_)
  · obtain ⟨r, g, i, ss, rfl, _⟩ := h
    rfl
  · obtain ⟨r, g, i, ss, rfl, hR, hi, hi1, k⟩ := h
    have hr1 := hr.mono (j := 1) (by decide)
    refine ⟨_, pss_cons (by
        refine ps_asg (pe_ix ix_tup (pe_ix ix_tup (pe_ix ix_list (by
          exact pe_call GS hr1 (by rfl) gS kS bS .nil pass0 (pa_cons (pe_ix ix_tup (pe_ix ix_list (pv 0) (pv 2) (fun _ _ => rfl)) pe_int (fun _ _ => rfl)) pa_nil)) (pv 3) (fun _ _ => rfl)) pe_int (fun _ _ => rfl)) pe_int (fun _ _ => rfl)) (pg_name (i := 4) sc_way.nd rfl (Or.inl rfl))) <| pss_cons (by
        refine ps_asg (by
          exact pe_call GF hr1 (by rfl) gF kF bF .nil pass0 (pa_cons (by exact pe_call GU hr (by rfl) gU kU bU .nil pass0 (pa_cons (pe_ix ix_tup (pe_ix ix_list (pv 0) (pv 2) (fun _ _ => rfl)) pe_int (fun _ _ => rfl)) (pa_cons (pv 3) pa_nil))) (pa_cons (pv 4) pa_nil))) (pg_name (i := 5) sc_way.nd rfl (Or.inl rfl))) <| pss_cons (by
        exact ps_if (pt_cmpR op_notN (pv 5) pe_non (nomark _)) pss_no pss_nil) <| pss_cons (by
        exact ps_par (i := 6) (j := 7) rfl sc_way.nd rfl rfl (by decide) rfl rfl (pa_cons (pe_lst (pa_cons (pe_lst (pa_cons (pv 2) (pa_cons (pe_ix ix_tup (pe_ix ix_list (pv 0) (pv 2) (fun _ _ => rfl)) pe_int (fun _ _ => rfl)) pa_nil))) pa_nil)) (pa_cons pe_dnewK pa_nil)) (by rfl)) <| pss_cons (by
        refine ps_while (passes_of rfl) (pt_cmpR op_gt (pe_callB call_len_seq (by rfl) gL PySem.boot_len (pa_cons (pv 6) pa_nil)) pe_int (nomark _)) (pss_cons (by
          exact ps_asg (pe_bm PySem.F.plainAttrs_list PySem.F.slot_list_pop PySem.F.type_list_pop mt_popAt (pv 6) (pa_cons pe_int pa_nil)) (pg_name (i := 8) sc_way.nd rfl (Or.inl rfl))) <| pss_cons (by
          exact ps_asg (pe_ix ix_list (pv 8) (pe_un un_neg pe_int) (fun _ _ => rfl)) (pg_name (i := 9) sc_way.nd rfl (Or.inl rfl))) <| pss_one (by
          refine ps_if (pt_cmpR op_eq (pv 9) (pe_callB call_len_seq (by rfl) gL PySem.boot_len (pa_cons (pv 0) pa_nil)) (nomark _)) pss_no (pss_one (by
            refine ps_if (pt_cmp (pc_dnotin (hu1 hr) (pv 9) (pv 7))) (pss_cons (by
              exact ps_dput (hu1 hr) (pv 7) (pv 9) pe_bl rfl) <| pss_cons (by
              exact ps_asg (pe_ix ix_list (pv 0) (pv 9) (fun _ _ => rfl)) (pg_tup rfl (pgs_cons (pg_name (i := 10) sc_way.nd rfl (Or.inl rfl)) (pgs_cons (pg_name (i := 11) sc_way.nd rfl (Or.inl rfl)) (pgs_cons (pg_name (i := 12) sc_way.nd rfl (Or.inl rfl)) pgs_nil))))) <| pss_cons (by
              refine ps_asg (by
                exact pe_call GF hr1 (by rfl) gF kF bF .nil pass0 (pa_cons (by exact pe_call GU hr (by rfl) gU kU bU1 vU pass0 (pa_cons (pv 10) pa_nil)) (pa_cons (pv 4) pa_nil))) (pg_name (i := 5) sc_way.nd rfl (Or.inl rfl))) <| pss_cons (by
              exact ps_if (pt_cmpR op_is_bl (pv 5) pe_bl (nomark _)) (pss_one (ps_ret (pv 8))) pss_nil) <| pss_no) pss_nil))))) <| pss_no, ?_⟩
    obtain ⟨ys, t, v, a1, a2, a3, a4, a5⟩ := rows_at hR hi
    obtain ⟨ys', t', v', b1, b2, b3, b4, b5⟩ := rows_at hR hi1
    have hl1 := (List.getElem?_eq_some_iff.mp hi1).1
    have row : ∀ {σ : L2.St} {H' : Hp}, Ex H H' → σ[0]? = some (some (.ref r)) → σ[2]? = some (some (.int (i : Nat))) → ∀ {j : Nat} {x : V}, [v, .int ((i : Nat) + 1), .int ((i : Nat) + 1)][j]? = some x → Ev (tOp (rIxT K) (tOp (rIxL K) (tVar 0) (tVar 2)) (tC (.int (j : Nat)))) σ H' x := fun {σ H'} e z0 z2 {j x} hx =>
      ev_ixT (ev_ixL (ev_var z0) (ev_var z2) (ex_l e a1) a3) ev_c (ex_t e a4) (at_of rfl hx)
    refine q_asg (v := .str "x") (ev_srcx (ea_cons (row (Ex.refl _) rfl rfl (j := 0) rfl) ea_nil) a5 rfl) fun H1 e1 => ?_
    refine q_asg (v := .non) (ev_is (ev_first (b := false) (n := "y") (m := "x") (eb_call (ea_cons (row e1 rfl rfl (j := 0) rfl) (ea_cons (ev_var rfl) ea_nil)) fun H2 e2 Q E kq => ⟨.M, v, H1, e2, a5.ex e1, .inr ⟨rfl, rfl, kq⟩⟩) rfl) (by rw [if_neg (by decide)])) fun H2 e2 => ?_
    have e02 := e1.trans e2
    refine q_no (et_test (ev_op (x := .non) (y := .non) (z := .bl false) (ev_var rfl) ev_c fun H3 e3 Q q => ⟨rfl, q H3 (Ex.refl _)⟩)) fun H3 e3 => ?_
    have e03 := e02.trans e3
    refine ⟨_, rfl, ?_⟩
    refine row e03 rfl rfl (j := 1) rfl H3 (Ex.refl _) _ fun H4 e4 => ⟨sz_of (n := 2) (by decide), fun w0 hw0 => ⟨sz_of (n := 1) (by decide), fun l hl s0 hs0 => ⟨.ref l, .ref s0, rfl, ?_⟩⟩⟩
    have e4w : Ex H4 (upd H4 w0 (.lst [.int (i : Nat), .int ((i : Nat) + 1)])) := Ex.new hw0
    have e4l := e4w.trans (Ex.new (o := .lst [.ref w0]) hl)
    have e4s := e4l.trans (Ex.new (o := .dK []) hs0)
    have hws : w0 ≠ s0 := fun z => by rw [← z, upd_ne (fun z => by rw [← z, upd_same] at hl; cases hl), upd_same] at hs0; cases hs0
    have hwl : w0 ≠ l := fun z => by rw [← z, upd_same] at hl; cases hl
    have hls : l ≠ s0 := fun z => by rw [← z, upd_same] at hs0; cases hs0
    refine q_while (tz := fun _ _ _ => False) (D := { nx := fun x H' => Q V.non H', rt := Q }) (fun m σ' H' => m = 1 ∧ ∃ p8 p9 p10 p11 p12, σ' = [some (.ref r), some g, some (.int (i : Nat)), some (.int 0), some (.str "x"), some .non, some (.ref l), some (.ref s0), p8, p9, p10, p11, p12] ∧ Ex H H' ∧ H' w0 = some (.lst [.int (i : Nat), .int ((i : Nat) + 1)]) ∧ H' l = some (.lst [.ref w0]) ∧ H' s0 = some (.dK [])) 1
      ⟨rfl, none, none, none, none, none, rfl, (e03.trans e4).trans e4s, by rw [upd_ne hws, upd_ne hwl, upd_same], by rw [upd_ne hls, upd_same], upd_same⟩ ?_
    rintro m σ' H' ⟨rfl, p8, p9, p10, p11, p12, rfl, e5, hw5, hl5, hs5⟩
    have hlH : H l = none := fresh_back ((e03.trans e4).trans e4w) hl
    have hsH : H s0 = none := fresh_back ((e03.trans e4).trans e4l) hs0
    refine ⟨true, et_test (ev_is (ev_op (x := .int 1) (y := .int 0) (ev_lenQ (ev_var rfl) (.inl (sq_of hl5))) ev_c rv_I0) rfl), fun _ H6 e6 => ⟨fun _ _ => False, fun _ _ z => z.elim, ?_⟩, fun z => nomatch z⟩
    refine ⟨.ref l, rfl, .inl ⟨rfl, _, sq_of (e6 l _ hl5)⟩, l, [.ref w0], 0, 0, .ref w0, rfl, rfl, e6 l _ hl5, by decide, by decide, rfl, rfl, ?_⟩
    have e7 : Ex H (upd H6 l (.lst ([V.ref w0].eraseIdx 0))) := Ex.mut (e5.trans e6) hlH
    have hw7 : (upd H6 l (.lst ([V.ref w0].eraseIdx 0))) w0 = some (.lst [.int (i : Nat), .int ((i : Nat) + 1)]) := by rw [upd_ne hwl]; exact e6 w0 _ hw5
    have hs7 : (upd H6 l (.lst ([V.ref w0].eraseIdx 0))) s0 = some (.dK []) := by rw [upd_ne (Ne.symm hls)]; exact e6 s0 _ hs5
    refine q_asg (v := .int ((i : Nat) + 1)) (ev_op (x := .ref w0) (y := .int (-1)) (ev_var rfl) (ev_un (x := .int 1) ev_c ru_neg) (rv_ixL (sq_of hw7) (show atI ([V.int (i : Nat)] ++ [V.int ((i : Nat) + 1)]) (-1) = some (V.int ((i : Nat) + 1)) from atI_last _ _))) fun H8 e8 => ?_
    refine s_if (b := false) (et_is (et_eq (ev_var rfl) (ev_lenQ (ev_var rfl) (.inl (ex_l (e7.trans e8) b1))) rfl) (decide_eq_false fun z => ?_)) (fun z => nomatch z) fun _ H9 e9 => ?_
    · have z := V.int.inj z
      omega
    refine s_if (b := true) (et_B (ev_dnotin (k := .inl ((i : Nat) + 1)) (ev_var rfl) (ev_var rfl) (.inl (e9 s0 _ (e8 s0 _ hs7))))) (fun _ H10 e10 => ?_) fun z => nomatch z
    refine q_dput (k := .inl ((i : Nat) + 1)) ev_c (ev_var rfl) (ev_var rfl) (e10 s0 _ (e9 s0 _ (e8 s0 _ hs7))) (by simp) fun H11 e11 => ?_
    have e12 : Ex H (upd H11 s0 (.dK (putK [] (.inl ((i : Nat) + 1)) (.bl true)))) := Ex.mut (e7.trans (e8.trans (e9.trans (e10.trans e11)))) hsH
    refine q_asg3 (te := tOp (rIxL K) (tVar 0) (tVar 9)) (ev_ixL (i := i + 1) (ev_var rfl) (ev_var rfl) (ex_l e12 b1) b3) (ex_t e12 b4) fun H13 e13 => ?_
    refine q_asg (v := .bl true) (ev_is (ev_first (b := true) (n := "x") (m := "x") (eb_call (ea_cons (ev_var rfl) ea_nil) fun H2 e2 Q E kq => ⟨.P, v', H13, e2, b5.ex (e12.trans e13), .inl ⟨rfl, rfl, kq⟩⟩) rfl) (by rw [if_pos rfl])) fun H14 e14 => ?_
    refine q_yes (et_test (ev_op (x := .bl true) (y := .bl true) (z := .bl true) (ev_var rfl) ev_c fun H3 e3 Q q => ⟨true, true, rfl, rfl, q H3 (Ex.refl _)⟩)) fun H15 e15 => ?_
    exact s_ret (v := .ref w0) (ev_var rfl) fun H16 e16 => k w0 H16 ((e12.trans e13).trans (e14.trans (e15.trans e16)))
end
end Cp

/-! set(list of distinct texts), its len. -/
namespace GZ
open PySem PySem.Spec PyProof.Rows SS
section
variable {prog : Program} {w : World} {A : Around} {R : Result → Shared → Prop} {I : Addr} {fp wr : List Addr} {G : Array GenState → Array GenState → Prop} {n : Nat} {P : Nat → Value → Prop} {St : Nat → Shared → Prop}
theorem lp_strs (W : WalksS prog w A.in1 I fp wr G n P St) (S : Addr) (hSf : S ∉ fp) (xs : List Str) (hsz : xs.length = n) (hn1 : xs.Nodup) (hnb : n ≤ 1000)
    (hval : ∀ i v, P i v → ∃ t, v = .str (xs.getD i Str.empty) t) :
    ∀ (k i : Nat) (s : Shared), n - i = k → i ≤ n → St i s →
      s.heap.SetOf (PySem.strKind prog w) S (fun k' => (xs.take i).any (· == k')) i →
      (∀ s', Moved (S :: wr) G s s' → s'.heap.SetOf (PySem.strKind prog w) S (fun k' => (xs.take n).any (· == k')) n → R (.ok (.ret .none)) s') →
      codeAny (model prog w) A (.builtin "set.update.loop" ⟨[.ref S, .ref I], []⟩) R s := by
  have hSw : S ∉ wr := fun h => hSf (W.sub _ h)
  have hsub : ∀ b ∈ wr, b ∈ S :: wr := fun b hb => List.mem_cons_of_mem _ hb
  intro k
  induction k with
  | zero =>
    intro i s hk hi hst hS hR
    have hin : i = n := by omega
    subst hin
    refine codeAny_builtin PyProof.Rows.F.entry_set_update_loop ?_
    rw [Around.under_plainId PyProof.Rows.F.plain_set_update_loop _]
    show wpAny _ A.in1 (pyNext (.ref I) >>= _) _ _ s
    refine wpAny_bind (W.done s _ _ hst fun s' hm => ?_)
    show wpAny _ A.in1 (ret Value.none) _ _ s'
    exact wpAny_pure (hR s' (hm.mono hsub) (by
      obtain ⟨o, es, ep, t, ho, rest⟩ := hS
      exact ⟨o, es, ep, t, hm.heap S _ hSw ho, rest⟩))
  | succ k ih =>
    intro i s hk hi hst hS hR
    have hlt : i < n := by omega
    refine codeAny_builtin PyProof.Rows.F.entry_set_update_loop ?_
    rw [Around.under_plainId PyProof.Rows.F.plain_set_update_loop _]
    show wpAny _ A.in1 (pyNext (.ref I) >>= _) _ _ s
    refine wpAny_bind (W.item i s _ _ hlt hst fun v s' hP hst' hm => ?_)
    obtain ⟨t, rfl⟩ := hval i v hP
    have hS' : s'.heap.SetOf (PySem.strKind prog w) S (fun k' => (xs.take i).any (· == k')) i := by
      obtain ⟨o, es, ep, tb, ho, rest⟩ := hS
      exact ⟨o, es, ep, tb, hm.heap S _ hSw ho, rest⟩
    show wpAny _ A.in1 (holding [Value.str (xs.getD i Str.empty) t] (setAdd S (.str (xs.getD i Str.empty) t)) >>= _) _ _ s'
    refine wpAny_bind (wpAny_holding ?_)
    unfold setAdd
    refine wpAny_holding ?_
    refine wpAny_bind ((PySem.strKind prog w).pyHash (k := xs.getD i Str.empty) (strKind_is _ _ _ _) ?_)
    refine wpAny_setAddHashed_of (knd := PySem.strKind prog w) (s := { s' with toks := s'.toks + 1 }) (strKind_is _ _ _ _) rfl hS' (by unfold scanBound; omega) fun h' hsb hS2 => ?_
    have hSi : h'.SetOf (PySem.strKind prog w) S (fun k' => (xs.take (i + 1)).any (· == k')) (i + 1) := by
      have hlx : i < xs.length := by omega
      have eg : xs.getD i Str.empty = xs[i] := by rw [List.getD_eq_getElem?_getD, List.getElem?_eq_getElem hlx]; rfl
      have et : xs.take (i + 1) = xs.take i ++ [xs[i]] := by rw [List.take_add_one, List.getElem?_eq_getElem hlx]; rfl
      have nw : ((xs.take i).any (· == xs[i])) = false := List.any_eq_false.mpr fun y hy => by
        obtain ⟨j, hj⟩ := List.mem_iff_getElem?.mp hy
        rw [List.getElem?_take] at hj
        by_cases hji : j < i
        · rw [if_pos hji] at hj
          obtain ⟨hjl, ej⟩ := List.getElem?_eq_some_iff.mp hj
          intro q
          exact List.pairwise_iff_getElem.mp hn1 j i hjl hlx hji (ej.trans (eq_of_beq q))
        · rw [if_neg hji] at hj
          cases hj
      refine SetOf_congr hS2 (fun k' => ?_) ?_
      · rw [et, List.any_append, eg]
        show ((xs.take i).any (· == k') || decide (k' = xs[i])) = ((xs.take i).any (· == k') || [xs[i]].any (· == k'))
        congr 1
        by_cases q : k' = xs[i]
        · subst q; simp
        · have hb : (xs[i] == k') = false := by simpa [beq_iff_eq] using (fun h' : xs[i] = k' => q h'.symm)
          simp [hb, q]
      · rw [eg, nw]
        rfl
    refine wpAny_pure ⟨plainId_quiet PyProof.Rows.F.plain_set_update_loop _, ih (i + 1) _ (by omega) hlt (W.frame _ s' _ _ hst' (Nat.le_succ _) fun b hb o e => ?_) hSi fun s'' hm'' hS'' => ?_⟩
    · rw [hsb.2 b (fun h : b = S => hSf (by rw [← h]; exact hb))]; exact e
    · refine hR s'' (Moved.trans W.gtrans ((hm.mono hsub).then_heap (Nat.le_succ _) fun b o hb e => ?_) hm'') hS''
      rw [hsb.2 b (fun h : b = S => hb (by rw [h]; exact List.mem_cons_self))]; exact e
end

section
variable {prog : Program} {w : World} {A : Around} {E : Value → Shared → Prop} {s : Shared}
set_option maxHeartbeats 3200000 in
theorem call_set_strs {l : Addr} {items : Array Value} {xs : List Str} {Q : Value → Shared → Prop}
    (hh : A.handled = none) (hl : s.heap.IsList l items) (hi : PyProof.Rows.StrsAre items.toList xs) (hn1 : xs.Nodup) (hnb : xs.length ≤ 1000)
    (h : ∀ (h' : Heap) (tk : Nat), h'.SetOf (PySem.strKind prog w) s.heap.objs.size (fun k' => (xs.take items.size).any (· == k')) items.size →
      (∀ b o, b < s.heap.objs.size → s.heap.get? b = some o → h'.get? b = some o) → Q (.ref s.heap.objs.size) { s with heap := h', toks := tk }) :
    wpAny (model prog w) A (call (.type "set") [.ref l]) Q E s := by
  obtain ⟨c, tl, hmro⟩ := PySem.F.called_set.mro
  have hmade := PySem.F.called_set.made
  have hsub := PySem.F.called_set.sub
  refine wpAny_call (codeAny_of_tree ?_)
  show wpAny _ _ (callAny (.type "set") _) _ _ _
  refine wpAny_pure ⟨Code.quiet_builtin _ (by decide +kernel), codeAny_builtin PySem.F.entry_type_call ?_⟩
  rw [Around.under_plain (weight_type_call_type "set" [.ref l] []) rfl]
  have h1 := PySem.F.called_set.notType
  have h2 := PySem.F.called_set.canCreate
  have hct := PySem.F.typeCall_set_1 (.ref l)
  repeat (any_goals (first | assumption | wp_step))

  refine codeAny_mono (code_set_new_1 (.ref l) (E := E) (Q₁ := fun obj s₁ => ∃ led : Bool, obj = .ref s.heap.objs.size ∧ s₁ = { s with heap := s.heap.push { cls := .type "set", dict := none, data := .set #[] 0 (.fresh 0 0 led) } }) fun led => ⟨led, rfl, rfl⟩) fun r s₁ hr => ?_
  cases r with
  | error e => exact hr
  | ok fl =>
    cases fl with
    | ret obj =>
      obtain ⟨led, rfl, rfl⟩ := hr
      have hS : (s.heap.push { cls := .type "set", dict := none, data := .set #[] 0 (.fresh 0 0 led) }).get? s.heap.objs.size = some { cls := .type "set", dict := none, data := .set #[] 0 (.fresh 0 0 led) } := Heap.get?_push_size _ rfl
      have hT : Shared.TypeIs { s with heap := s.heap.push { cls := .type "set", dict := none, data := .set #[] 0 (.fresh 0 0 led) } } (.ref s.heap.objs.size) "set" := ⟨_, hS, rfl⟩
      have hli := PySem.F.called_set.init.lookup
      have hbi := PySem.F.called_set.init.bind (.ref s.heap.objs.size)
      repeat (any_goals (first | assumption | wp_step))

      refine codeAny_mono (codeAny_call_builtin (R := wants (fun r s₂ => r = .none ∧ ∃ h' tk, s₂ = { s with heap := h', toks := tk } ∧
          h'.SetOf (PySem.strKind prog w) s.heap.objs.size (fun k' => (xs.take items.size).any (· == k')) items.size ∧
          (∀ b o, b < s.heap.objs.size → s.heap.get? b = some o → h'.get? b = some o)) E) PySem.F.called_set.init.plain PySem.F.entry_set_init (check_set_init_1 hT ?_)) fun r₂ s₂ hr₂ => ?_
      · obtain ⟨ol, hol, hcl, nl, hdl⟩ := hl
        obtain ⟨ocls, odict, odata, oslots⟩ := ol
        simp only at hcl hdl
        subst hcl; subst hdl
        have hol' : (s.heap.push { cls := .type "set", dict := none, data := .set #[] 0 (.fresh 0 0 led) }).get? l = some { cls := .type "list", dict := odict, data := .seq items nl, slots := oslots } := Heap.get?_push_of_some _ hol
        have hsls := PySem.F.sub_list_set
        have hslf := PySem.F.sub_list_frozenset
        have hne : (Value.type "list" == Value.type "dict") = false := by decide
        have hl1 : (s.heap.push { cls := .type "set", dict := none, data := .set #[] 0 (.fresh 0 0 led) }).IsList l items := ⟨_, hol', rfl, nl, rfl⟩
        unfold Builtin.«set.__init__» noKeywords Builtin.Frozenset.updateFrom
        generalize hPI : pyIter = PI
        wp_walk
        subst hPI

        refine wpAny_pyIter_list hl1 ?_
        refine wpAny_bind (wpAny_runValue ?_)
        have hlS : l < s.heap.objs.size := Heap.lt_size hol
        have hh3 : A.in1.in1.in1.handled = none := by simp [hh]
        have hneI : l ≠ (s.heap.push { cls := .type "set", dict := none, data := .set #[] 0 (.fresh 0 0 led) }).objs.size := by
          rw [Heap.size_push]; exact Nat.ne_of_lt (Nat.lt_succ_of_lt hlS)
        have hSf : s.heap.objs.size ∉ [(s.heap.push { cls := .type "set", dict := none, data := .set #[] 0 (.fresh 0 0 led) }).objs.size, l] := by
          rw [Heap.size_push]; simp only [List.mem_cons, List.mem_singleton, List.not_mem_nil, or_false, not_or]
          exact ⟨Nat.ne_of_lt (Nat.lt_succ_self _), Nat.ne_of_gt hlS⟩
        have hsz : xs.length = items.size := by rw [← StrsAre.len_eq hi, Array.length_toList]
        have hval : ∀ (i : Nat) (v : Value), items[i]? = some v → ∃ t, v = .str (xs.getD i Str.empty) t := fun i v hv => strs_at hi i v (by rw [Array.getElem?_toList]; exact hv)
        refine lp_strs ((Walks.list hh3 _ l hneI items).toS) s.heap.objs.size
          hSf xs hsz hn1 (by rw [← hsz]; exact hnb) hval (items.size - 0) 0 _ (by omega) (Nat.zero_le _)
          ⟨⟨_, Heap.get?_push_size _ rfl, rfl, rfl⟩, (hl1.push _)⟩ ?hS0 ?hR
        case hS0 =>
          have hget : ((s.heap.push { cls := .type "set", dict := none, data := .set #[] 0 (.fresh 0 0 led) }).push { cls := .type "list_iterator", data := .fields #[.ref l, .int 0 0] }).get? s.heap.objs.size
              = some { cls := .type "set", dict := none, data := .set #[] 0 (.fresh 0 0 led) } := Heap.get?_push_of_some _ hS
          exact PyProof.Rows.SetOf_congr ((PyProof.Rows.setObjOf_fresh (knd := PySem.strKind prog w) led).setOf hget (by unfold scanBound; omega)) (fun _ => rfl) rfl
        case hR =>
          intro s' hm hS'
          obtain ⟨h', g', d', tk', os'⟩ := s'
          have eg : g' = s.gens := hm.gens
          have ed : d' = s.drawn := hm.drawn
          have eo : os' = s.os := hm.os
          subst eg; subst ed; subst eo
          show wpAny _ _ _ _ _ _
          refine wpAny_pure ?_
          show wpAny _ _ (ret Value.none) _ _ _
          refine wpAny_pure ⟨rfl, h', tk', rfl, hS', fun b o hb e => ?_⟩
          have hb1 : b ≠ s.heap.objs.size := Nat.ne_of_lt hb
          have hb2 : b ≠ (s.heap.push { cls := .type "set", dict := none, data := .set #[] 0 (.fresh 0 0 led) }).objs.size := by
            rw [Heap.size_push]; exact Nat.ne_of_lt (Nat.lt_succ_of_lt hb)
          exact hm.heap b o (by simp only [List.mem_cons, List.mem_singleton, List.not_mem_nil, or_false, not_or]; exact ⟨hb1, hb2⟩) (Heap.get?_push_of_some _ (Heap.get?_push_of_some _ e))

      · cases r₂ with
        | error e => exact hr₂
        | ok fl₂ =>
          cases fl₂ with
          | ret r =>
            obtain ⟨rfl, h', tk, rfl, hS', hk'⟩ := hr₂
            repeat (any_goals (first | assumption | wp_step))
            exact h _ _ hS' hk'
          | _ => exact hr₂.elim
    | _ => exact hr.elim
end
end GZ

namespace GZ
open PySem PySem.Spec PyProof.Rows SS L2
/-- len(set(xs)), xs a list of distinct texts -/
def tLenSetS (K : PySem.W.Frag) (ta : TE) : TE := fun σ H Q => ta σ H fun x H1 => ∃ (l : Addr) (xs : List Str), x = .ref l ∧ SqL K H1 l (xs.map V.str) ∧ xs.Nodup ∧ xs.length ≤ 1000 ∧ Q (.int (xs.length : Nat)) H1
theorem pe_lenSetS {X : Cx} {a : Expr} {ta : TE} {p p2 q pos : Pos} (hg : Gl X "len") (hm : X.mg "len" = none) (hg2 : Gl X "set") (hm2 : X.mg "set" = none) (ha : PE X a ta) (hc : X.calm = true := by rfl)
    (na : starEach [a] X.env = (false, eval a X.env) :: starEach [] X.env := by rfl) : PE X (.Call (.Name "len" p) [.Call (.Name "set" p2) [a] [] q] [] pos) (tLenSetS X.K ta) := by
  refine ⟨fun pins s σ H Q I h => Call_ (ld_blt I hg hm boot_len (PyProof.Rows.callWith_builtin1 (PyProof.Rows.args_cons ?_ rfl) rfl rfl))⟩
  refine Call_ (ld_blt I hg2 hm2 boot_set (PyProof.Rows.callWith_type1 (PyProof.Rows.args_cons (thn (ha.run pins s σ H _ I h) fun v s1 hv => PyProof.Rows.args_nil ?_) na) na rfl))
  obtain ⟨x, H1, I1, r1, l, xs, rfl, hq, hnd, hl, q1⟩ := hv
  cases r1
  obtain ⟨its, r, pl, hz⟩ := I1.list hq
  have hlen : its.toArray.size = xs.length := by rw [List.size_toArray, ← r.length, List.length_map]
  refine call_set_strs (I1.ok.hd hc) pl.isList (by simpa using strsAre_of r) hnd hl fun h' tk hS hk => PyProof.Rows.args_nil ?_
  rw [hlen] at hS
  obtain ⟨o, es, ep, t, ho, hex, hd, _, _, _, hf, hn⟩ := hS
  have I2 : Inv X pins σ H1 { s1 with heap := h', toks := tk } := I1.kept fun b o e => hk b o (Heap.lt_size e) e
  exact call_len_set ho hex hd hf (by rw [hn]; omega) ⟨.int xs.length, H1, I2.tok _, ⟨_, by rw [hn]⟩, q1⟩
end GZ

namespace Cp
open PySem PySem.Spec PyProof.Rows L2 Evl GN GZ
section
variable {K : PySem.W.Frag} {σ : L2.St} {H : Hp}
theorem ev_all {te : TE} {bs : List Bool} (h : EvL te σ H (bs.map V.bl)) : Ev (tCB (rAll K) (tCons te tNil)) σ H (.bl (bs.all id)) := fun H1 e Q q =>
  h H1 e _ fun p H2 _ e2 h2 => ⟨p, bs, rfl, sq_of h2, q H2 e2⟩
/-- o.f -/
theorem ev_fld {te : TE} {a C dx : Addr} {fs : List (Str × V)} {f : Str} {v : V} (h : Ev te σ H (.ref a)) (ha : H a = some (.ins C dx fs)) (c : Cls K C) (n : NoAttr K C f) (l : fs.lookup f = some v) : Ev (tFld K te f) σ H v := fun H1 e Q q =>
  h H1 e _ fun H2 e2 => ⟨a, C, dx, fs, v, rfl, e2 a _ (e a _ ha), c, n, l, q H2 e2⟩
/-- a chain a <= b <= c of ints that holds -/
theorem et_chain {ta tb tc : TE} {x y z : Int} (h1 : Ev ta σ H (.int x)) (h2 : Ev tb σ H (.int y)) (h3 : Ev tc σ H (.int z)) (hxy : x ≤ y) (hyz : y ≤ z) : Ev (tChain (rI0 fun i j => .bl (decide (i ≤ j))) (rI0 fun i j => .bl (decide (i ≤ j))) ta tb tc) σ H (.bl true) := fun H1 e Q q =>
  h1 H1 e _ fun H2 e2 => h2 H2 (e.trans e2) _ fun H3 e3 => ⟨x, y, rfl, rfl, true, (by show V.bl (decide (x ≤ y)) = _; rw [decide_eq_true hxy]), h3 H3 ((e.trans e2).trans e3) _ fun H4 e4 => ⟨y, z, rfl, rfl, by
    show Q (V.bl (decide (y ≤ z))) H4
    rw [decide_eq_true hyz]
    exact q H4 ((e2.trans e3).trans e4)⟩⟩
end
/-! ### is_word -/
def lowL : Str := "abcdefghijklmnopqrstuvwxyz"
def isLow (z : Str) (k : Nat) : Bool := match z.cps[k]? with
  | some c => !(Builtin.Str.occurrences lowL ⟨#[c]⟩ 0 lowL.length 1).isEmpty
  | none => false
def isW (z : Str) : Bool := ((List.range z.cps.size).map (isLow z)).all id
def spWord : Sp := fun vs H Q _ => ∃ z, vs = [.str z] ∧ 1 ≤ z.length ∧ z.length ≤ 6 ∧ RetV (.bl (isW z)) H Q
theorem sc_word : FnScope ["text", "sign"] ["text"] (defScope (top 29)) := ⟨rfl, rfl, rfl, by decide +kernel, rfl, by decide +kernel, by decide +kernel⟩
section
variable {P : Program} {w : World} {K : PySem.W.Frag} {mg : Str → Option Value} {base : Heap} {f : Addr} {fd : FuncData}
theorem ok_word {t : Tok} (F : FnP K "is_word" (top 29) [] f fd) (gL : mg "len" = none) (gA : mg "all" = none) (gT : mg "LETTERS" = some (.str lowL t)) : FnOk P w K mg base CX0 1 f fd ["text"] spWord := by
  refine F.ok sc_word (fun vs H Q E h => ?_) (fun cdv A outer s H vs Q E hr h => ?_)
  · obtain ⟨z, rfl, _⟩ := h
    rfl
  · obtain ⟨z, rfl, h1, h6, k⟩ := h
    refine ⟨_, pss_one (by
      refine ps_ret (pe_and (pe_chain op_le op_le pe_int (pe_callB call_len_str (by rfl) gL PySem.boot_len (pa_cons (pv 0) pa_nil)) pe_int) (pe_one (pe_callB (cr_all rfl) (by rfl) gA boot_all (pa_cons (by
        exact pe_lc (own := [("sign", 1)]) (g := gName 1) (tt := tYes) (te := tOp (fun x y H Q => ∃ i j, x = .str i ∧ y = .str j ∧ Q (.bl (!(Builtin.Str.occurrences j i 0 j.length 1).isEmpty)) H) (tVar 1) (tC (.str lowL))) rfl sc_word.nd (pi_str (pv 0)) (blkOk_by (by kernel_rfl)) (fun _ _ _ _ _ => pg_name (i := 1) sc_word.nd rfl (Or.inl rfl)) (fun _ _ _ _ _ => pts_nil) (fun _ _ _ _ _ => by
          exact pe_cmpR op_in_str (pv 1) (pe_glob (by rfl) gT ⟨_, rfl⟩) (by rfl))) pa_nil))))), ?_⟩
    have hz : z.cps.size = z.length := rfl
    refine s_ret (v := .bl (true && isW z)) (ev_andV (et_chain (x := 1) (y := z.length) (z := 6) ev_c (fun H1 e Q q => ?_) ev_c (by omega) (by omega)) fun _ => ev_all ?_) fun H1 e1 => ?_
    · exact ⟨.str z, rfl, z, rfl, sz_of (by omega), q H1 (Ex.refl _)⟩
    · have el : EvN (tLc (iStr (tVar 0)) (gName 1) tYes (tOp (fun x y H Q => ∃ i j, x = .str i ∧ y = .str j ∧ Q (.bl (!(Builtin.Str.occurrences j i 0 j.length 1).isEmpty)) H) (tVar 1) (tC (.str lowL))) [1]) (start ["text", "sign"] [.str z]) H (ixs z.cps.size fun _ => true) (fun k y _ => y = .bl (isLow z k)) := by
        refine en_lcN (fun _ => true) (ew_str (ev_var rfl)) (by omega) (fun i H1 x H2 y => y.1) (fun x => rfl) (fun i x H1 hi e y => et_yes) fun i x H1 hi e y _ => ?_
        obtain ⟨_, c, hc, rfl⟩ := y
        refine evp_v (fun H2 e2 Q q => ⟨.str ⟨#[c]⟩, rfl, ⟨#[c]⟩, lowL, rfl, rfl, ?_⟩)
        unfold isLow at q
        rw [hc] at q
        exact q H2 (Ex.refl _)
      have h2 := EvN.vals el
      rw [ixs_all] at h2
      rw [List.map_map]
      exact h2
    · rw [Bool.true_and]
      exact k.go e1
end
end Cp

namespace Cp
open PySem PySem.Spec PyProof.Rows L2 Evl GN GZ
section
variable {K : PySem.W.Frag} {σ : L2.St} {H : Hp}
/-- [te for g in one item] -/
theorem el_lc1 {tl te : TE} {g : L2.TG} {vs : List Nat} {a : Addr} {v z : V} (h : Ev tl σ H (.ref a)) (hx : SqL K H a [v])
    (turn : ∀ H1, Ex H H1 → ∀ Q : L2.St → Hp → Prop, (∀ σ2, wipe σ2 vs = wipe σ vs → Ev te σ2 H z → Q σ2 H1) → g v (wipe σ vs) H1 Q) : EvL (tLc (iList K tl) g tYes te vs) σ H [z] := by
  have el : EvN (tLc (iList K tl) g tYes te vs) σ H (ixs 1 fun _ => true) (fun k y _ => y = z) := by
    refine en_lc (fun _ => true) (ew_list h hx) (by decide) fun i x H1 H2 hi e y => ?_
    obtain ⟨rfl, hy⟩ := y
    have hi : i = 0 := by simpa using hi
    subst hi
    have ex : v = x := Option.some.inj hy
    subst ex
    refine ⟨Ex.refl _, fun Q q => turn H2 e Q fun σ2 hw hv => q σ2 H2 (Ex.refl _) hw et_yes fun _ H4 e4 Q2 q2 => hv H4 (e.trans e4) Q2 fun H5 e5 => q2 z H5 e5 fun _ _ => rfl⟩
  exact EvN.vals el
end
/-! ### Kinds -/
structure KC (K : PySem.W.Frag) (C : Addr) : Prop where
  cls : Cls K C
  forms : NoAttr K C "forms"
  sizes : NoAttr K C "sizes"
abbrev mK (j : Nat) : Stmt := inClass (top 30) j
def Nmay : List Str := ["self", "name", "fields", "words", "field", "kind", "word"]
theorem sc_may : FnScope Nmay ["self", "name", "fields"] (defScope (mK 5)) := ⟨rfl, rfl, rfl, by decide +kernel, rfl, by decide +kernel, by decide +kernel⟩
/-- may_follow('leaf', [('n', None)]), no kind being there -/
def spMay (K : PySem.W.Frag) (C : Addr) : Sp := fun vs H Q _ => ∃ x dx fs a fl p, vs = [.ref x, .str "a", .ref fl] ∧ H x = some (.ins C dx fs) ∧ fs.lookup ("forms" : Str) = some (V.ref a) ∧ Rd H a (.dK []) ∧ SqL K H fl [.ref p] ∧ SqT K H p [.str "n", .non] ∧ RetV (.bl true) H Q
section
variable {P : Program} {w : World} {K : PySem.W.Frag} {mg : Str → Option Value} {base : Heap} {f : Addr} {fd : FuncData} {C : Addr}
theorem ok_may {fW : Addr} {fdW : FuncData} {t : Tok} (F : MeP K "may_follow" "Kinds.may_follow" (mK 5) f fd) (kc : KC K C) (GW : FnOk P w K mg base CX0 1 fW fdW ["text"] spWord) (gW : mg "is_word" = some (.ref fW)) (kW : PySem.W.keepIn K (.ref fW) = true) (bW : Binds K fdW ["text"] [])
    (gL : mg "len" = none) (gA : mg "all" = none) (gS : mg "set" = none) (gF : mg "FIELDS" = some (.int 3 t)) : FnOk P w K mg base CX0 2 f fd ["self", "name", "fields"] (spMay K C) := by
  refine F.ok sc_may (fun vs H Q E h => ?_) (fun cdv A outer s H vs Q E hr h => ?_)
  · obtain ⟨x, dx, fs, a, fl, p, rfl, _⟩ := h
    rfl
  · obtain ⟨x, dx, fs, a, fl, p, rfl, hx, hf, ha, hl, hp, k⟩ := h
    refine ⟨_, pss_cons (by
        refine ps_if (PW.pt (pw_or (pt_not (pt_val (by
          exact pe_call GW hr (by rfl) gW kW bW .nil pass0 (pa_cons (pv 1) pa_nil)) (by intro _; rfl))) (pw_or (pt_cmp (by
          exact pc_din (hu1 hr) (pv 1) (pe_fld (pv 0) rfl))) (pw_or1 (pt_not (by
          exact pt_chain op_le op_le pe_int (pe_callB call_len_seq (by rfl) gL PySem.boot_len (pa_cons (pv 2) pa_nil)) (pe_glob (v := .int 3) (by rfl) gF ⟨_, rfl⟩))))))) (pss_one (ps_ret pe_bl)) pss_nil) <| pss_cons (by
        exact ps_setLc (i := 3) (own := [("field", 4), ("kind", 5)]) (g := gTup K 2 (gCons (gName 4) (gCons (gName 5) gNil))) (tt := tYes) (te := tVar 4) rfl sc_may.nd rfl rfl rfl (pi_list (pv 2)) (blkOk_by (by kernel_rfl)) (fun _ _ _ _ _ => pg_tup rfl (pgs_cons (pg_name (i := 4) sc_may.nd rfl (Or.inl rfl)) (pgs_cons (pg_name (i := 5) sc_may.nd rfl (Or.inl rfl)) pgs_nil))) (fun _ _ _ _ _ => pts_nil) (fun _ _ _ _ _ => by exact pv 4)) <| pss_cons (by
        refine ps_if (PW.pt (pw_or (pt_not (pt_val (pe_callB (cr_all rfl) (by rfl) gA boot_all (pa_cons (by
          exact pe_lc (own := [("word", 6)]) (g := gName 6) (tt := tYes) (te := tCall spWord [] E0 (tCons (tVar 6) tNil)) rfl sc_may.nd (pi_list (pv 3)) (blkOk_by (by kernel_rfl)) (fun _ _ _ _ _ => pg_name (i := 6) sc_may.nd rfl (Or.inl rfl)) (fun _ _ _ _ _ => pts_nil) (fun _ _ _ _ _ => by exact pe_call GW hr (by rfl) gW kW bW .nil pass0 (pa_cons (pv 6) pa_nil))) pa_nil)) (by intro _; rfl))) (pw_or1 (by
          exact pt_cmpR op_lt (pe_lenSetS (by rfl) gL (by rfl) gS (pv 3)) (pe_callB call_len_seq (by rfl) gL PySem.boot_len (pa_cons (pv 3) pa_nil)) (nomark _))))) (pss_one (ps_ret pe_bl)) pss_nil) <| pss_one (by
        refine ps_ret (pe_callB (cr_all rfl) (by rfl) gA boot_all (pa_cons (by
          exact pe_lc (own := [("field", 4), ("kind", 5)]) (g := gTup K 2 (gCons (gName 4) (gCons (gName 5) gNil))) (tt := tYes) (te := tOrV (tOp (fun x y H Q => y = .non ∧ Q (.bl (decide (x = .non))) H) (tVar 5) (tC .non)) (fun _ _ _ => False)) rfl sc_may.nd (pi_list (pv 2)) (blkOk_by (by kernel_rfl)) (fun _ _ _ _ _ => pg_tup rfl (pgs_cons (pg_name (i := 4) sc_may.nd rfl (Or.inl rfl)) (pgs_cons (pg_name (i := 5) sc_may.nd rfl (Or.inl rfl)) pgs_nil))) (fun _ _ _ _ _ => pts_nil) (fun _ _ _ _ _ => by exact pe_or (pe_cmpR op_isN (pv 5) pe_non (nomark _)) pe_no)) pa_nil))), ?_⟩
    have wd : ∀ {σ : L2.St} {H' : Hp} {te : TE} {z : Str}, Ev te σ H' (.str z) → 1 ≤ z.length → z.length ≤ 6 → isW z = true → Ev (tCall spWord [] E0 (tCons te tNil)) σ H' (.bl true) := fun h h1 h6 hz => ev_is (ev_call (ea_cons h ea_nil) (RetV.call fun H1 e Q E q => ⟨_, rfl, h1, h6, q⟩)) (by rw [hz])
    refine q_no (et_is (et_or (a := false) (et_is (et_not (et_B (wd (z := "a") (ev_var rfl) (by decide) (by decide) (by decide +kernel)))) rfl) fun _ => et_or (a := false) (et_B (ev_is (ev_din (k := .inr "a") (ev_var rfl) (ev_fld (ev_var rfl) hx kc.cls kc.forms hf) ha) rfl)) fun _ => et_is (et_not (et_test (et_chain (x := 1) (y := 1) (z := 3) ev_c (ev_lenQ (ev_var rfl) (.inl hl)) ev_c (by decide) (by decide)))) (b := false) rfl) rfl) fun H1 e1 => ?_
    refine q_asgL (el_lc1 (z := .str "n") (ev_var rfl) (ex_l e1 hl) fun H2 e2 Q q => g_two (ex_t (e1.trans e2) hp) (q _ rfl (ev_var rfl))) fun pw H2 hpw e2 h2 => ?_
    refine q_no (et_is (et_or (a := false) (et_is (et_not (et_B (ev_all (bs := [true]) (el_lc1 (z := .bl true) (ev_var rfl) (sq_of h2) fun H3 e3 Q q => q _ rfl (wd (z := "n") (ev_var rfl) (by decide) (by decide) (by decide +kernel)))))) rfl) fun _ => et_test (b := false) (ev_is (ev_op (x := .int 1) (y := .int 1) (fun H3 e3 Q q => ⟨.ref pw, rfl, pw, ["n"], rfl, ex_l e3 (sq_of h2), by decide, by decide, q H3 (Ex.refl _)⟩) (ev_lenQ (ev_var rfl) (.inl (sq_of h2))) rv_I0) rfl)) rfl) fun H3 e3 => ?_
    have e03 := (e1.trans e2).trans e3
    refine s_ret (v := .bl true) (ev_is (ev_all (bs := [true]) (el_lc1 (z := .bl true) (ev_var rfl) (ex_l e03 hl) fun H4 e4 Q q => g_two (ex_t (e03.trans e4) hp) (q _ rfl (ev_is (ev_orV (a := true) (b := true) (ev_op (x := .non) (y := .non) (z := .bl true) (ev_var rfl) ev_c fun H5 e5 Q q => ⟨rfl, q H5 (Ex.refl _)⟩) fun z => nomatch z) rfl)))) rfl) fun H4 e4 => k.go (e03.trans e4)
end
end Cp

namespace Cp
open PySem PySem.Spec PyProof.Rows L2 Evl GN GZ
/-- o.f = v as a target -/
def gFld (K : PySem.W.Frag) (ta : TE) (f : Str) : L2.TG := fun y σ H Q => ta σ H fun x H2 => ∃ a C dx fs, x = .ref a ∧ H2 a = some (.ins C dx fs) ∧ Cls K C ∧ NoAttr K C f ∧ fs.length < 1000 ∧ Q σ (upd H2 a (.ins C dx (putF f y fs)))
theorem pg_fld {X : Cx} {o : Expr} {ta : TE} {f : Str} {pos : Pos} (ha : PE X o ta) : PG X (.Attribute o f pos) (gFld X.K ta f) := by
  refine ⟨fun pins s σ H v u Q I r h => ?_⟩
  rw [assign_Attribute]
  refine wpAny_bind (wpAny_holding (thn (ha.run pins s σ H _ I h) fun ov s1 hh => wpAny_bind (wpAny_standAt (wpAny_bind (wpAny_holding ?_)))))
  obtain ⟨x, H1, I1, rx, a, C, dx, fs, rfl, ea, c, n, l, q⟩ := hh
  obtain rfl : ov = Value.ref a := rx
  exact setattr_ok I1 ea c n l r fun s2 I2 => wpAny_release ⟨σ, _, I2, q⟩
section
variable {K : PySem.W.Frag} {H : Hp} {x C dx : Addr} {fs : List (Str × V)} {o : HO}
theorem rd_ins {a : Addr} {u : HO} (hx : H x = some (.ins C dx fs)) (hu : ∀ fs', u ≠ .ins C dx fs') (h : Rd H a u) : Rd (upd H x o) a u := by
  have ha : a ≠ x := fun z => by
    subst z
    rcases h with h | ⟨o', h⟩
    · rw [hx] at h
      cases h
      exact hu _ rfl
    · rw [hx] at h
      cases h
  rcases h with h | ⟨o', h⟩
  · exact .inl (by rw [upd_ne ha]; exact h)
  · exact .inr ⟨o', by rw [upd_ne ha]; exact h⟩
theorem sqL_ins {a : Addr} {xs : List V} (hx : H x = some (.ins C dx fs)) (h : SqL K H a xs) : SqL K (upd H x o) a xs := h.elim (fun z => .inl (rd_ins hx (fun _ q => by cases q) z)) .inr
theorem sqT_ins {a : Addr} {xs : List V} (hx : H x = some (.ins C dx fs)) (h : SqT K H a xs) : SqT K (upd H x o) a xs := h.elim (fun z => .inl (rd_ins hx (fun _ q => by cases q) z)) .inr
end
section
variable {K : PySem.W.Frag} {σ : L2.St} {H : Hp}
theorem g_nest {i j m : Nat} {T t : Addr} {u y z : V} {Q : L2.St → Hp → Prop} (hT : SqT K H T [u, .ref t]) (ht : SqT K H t [y, z]) (k : Q (((σ.set i (some u)).set j (some y)).set m (some z)) H) : gTup K 2 (gCons (gName i) (gCons (gTup K 2 (gCons (gName j) (gCons (gName m) gNil))) gNil)) (.ref T) σ H Q :=
  ⟨T, _, rfl, hT, rfl, u, _, rfl, .ref t, _, rfl, t, _, rfl, ht, rfl, y, _, rfl, z, _, rfl, rfl, rfl, k⟩
theorem ev_meth {ta : TE} {t : TA} {C a dx : Addr} {fs : List (Str × V)} {m : Str} {sp : Sp} {dvs vs : List V} {E : XK} {z : V} (h : Ev ta σ H (.ref a)) (ha : H a = some (.ins C dx fs)) (hm : fs.lookup m = none) (hv : EvA t σ H vs) (hs : SpV sp (.ref a :: (vs ++ dvs)) H z) : Ev (tMeth C m sp dvs E ta t) σ H z := fun H1 e Q q =>
  h H1 e _ fun H2 e2 => ⟨a, dx, fs, rfl, e2 a _ (e a _ ha), hm, hv H2 (e.trans e2) _ fun H3 e3 => hs H3 ((e.trans e2).trans e3) Q (fun H4 e4 => q H4 ((e2.trans e3).trans e4)) E⟩
/-- [te for g in one item if not ..] -/
theorem el_lc1n {tl te : TE} {g : L2.TG} {tt : TT} {vs : List Nat} {a : Addr} {v : V} (h : Ev tl σ H (.ref a)) (hx : SqL K H a [v])
    (turn : ∀ H1, Ex H H1 → ∀ Q : L2.St → Hp → Prop, (∀ σ2, wipe σ2 vs = wipe σ vs → EvT tt σ2 H false → Q σ2 H1) → g v (wipe σ vs) H1 Q) : EvL (tLc (iList K tl) g tt te vs) σ H [] := by
  have el : EvN (tLc (iList K tl) g tt te vs) σ H (ixs 1 fun _ => false) (fun k y _ => y = .non) := by
    refine en_lc (fun _ => false) (ew_list h hx) (by decide) fun i x H1 H2 hi e y => ?_
    obtain ⟨rfl, hy⟩ := y
    have hi : i = 0 := by simpa using hi
    subst hi
    have ex : v = x := Option.some.inj hy
    subst ex
    exact ⟨Ex.refl _, fun Q q => turn H2 e Q fun σ2 hw hv => q σ2 H2 (Ex.refl _) hw hv fun z => nomatch z⟩
  exact EvN.vals el
/-- [(a, b) for g in one item] -/
theorem en_lc1T {tl : TE} {ta : TA} {g : L2.TG} {vs : List Nat} {a : Addr} {v : V} {zs : List V} (hz : zs.length ≤ 1000) (h : Ev tl σ H (.ref a)) (hx : SqL K H a [v])
    (turn : ∀ H1, Ex H H1 → ∀ Q : L2.St → Hp → Prop, (∀ σ2, wipe σ2 vs = wipe σ vs → EvA ta σ2 H zs → Q σ2 H1) → g v (wipe σ vs) H1 Q) : EvB (tLc (iList K tl) g tYes (tTup ta) vs) σ H (fun ys H3 => ∃ p, ys = [.ref p] ∧ H3 p = some (.tup zs)) := by
  have el : EvN (tLc (iList K tl) g tYes (tTup ta) vs) σ H (ixs 1 fun _ => true) (fun k y H3 => ∃ p, y = .ref p ∧ H3 p = some (.tup zs)) := by
    refine en_lc (fun _ => true) (ew_list h hx) (by decide) fun i x H1 H2 hi e y => ?_
    obtain ⟨rfl, hy⟩ := y
    have hi : i = 0 := by simpa using hi
    subst hi
    have ex : v = x := Option.some.inj hy
    subst ex
    refine ⟨Ex.refl _, fun Q q => turn H2 e Q fun σ2 hw hv => q σ2 H2 (Ex.refl _) hw et_yes fun _ H4 e4 Q2 q2 => ?_⟩
    exact hv H4 (e.trans e4) _ fun H5 e5 => ⟨sz_of (by omega), fun p hp => q2 (.ref p) _ (e5.trans (Ex.new hp)) fun H6 k => ⟨p, rfl, k.new p _ (fresh_back (e4.trans e5) hp) upd_same⟩⟩
  intro H1 e Q q
  refine el H1 e Q fun p ys H2 n e2 h2 z => q p ys H2 n e2 h2 fun H3 k => ?_
  obtain ⟨l1, l2⟩ := z H3 k
  match ys, l1 with
  | [y], _ =>
    obtain ⟨p', e1, e2⟩ := l2 0 0 y rfl rfl
    exact ⟨p', by rw [e1], e2⟩
theorem q_dputB {td ty tv : TE} {tz : TS} {D : Ends} {Pp : List V → Hp → Prop} {a : Addr} {k : L2.Key} {kvs : List (L2.Key × V)} (hv : EvB tv σ H Pp) (hd : ∀ H1, Ex H H1 → Ev td σ H1 (.ref a)) (hy : ∀ H1, Ex H H1 → Ev ty σ H1 (kV k)) (h : H a = some (.dK kvs)) (hl : kvs.length < 100000)
    (kk : ∀ p ys H1, H p = none → Ex H H1 → H1 p = some (.lst ys) → Pp ys H1 → tz D σ (upd H1 a (.dK (putK kvs k (.ref p))))) : tSeq (sDPut td ty tv) tz D σ H := hv H (Ex.refl H) _ fun p ys H1 n e1 h1 z => hd H1 e1 H1 (Ex.refl _) _ fun H2 e2 => hy H2 (e1.trans e2) H2 (Ex.refl _) _ fun H3 e3 =>
  ⟨a, _, rfl, DPut.k (((e1.trans e2).trans e3) a _ h) (sz_lt hl), kk p ys H3 n ((e1.trans e2).trans e3) (e3 p _ (e2 p _ h1)) (z H3 ⟨(e1.trans e2).trans e3, fun c o _ hc => e3 c o (e2 c o hc)⟩)⟩
end
/-- a Kinds with the one kind leaf, its field n -/
def KindsOk (H : Hp) (C x : Addr) : Prop := ∃ dx a b q p, H x = some (.ins C dx [("forms", .ref a), ("sizes", .ref b)]) ∧ H a = some (.dK [(.inr "a", .ref q)]) ∧ H q = some (.lst [.ref p]) ∧ H p = some (.tup [.str "n", .non])
theorem KindsOk.ex {H H' : Hp} {C x : Addr} (e : Ex H H') : KindsOk H C x → KindsOk H' C x
  | ⟨dx, a, b, q, p, h1, h2, h3, h4⟩ => ⟨dx, a, b, q, p, e _ _ h1, e _ _ h2, e _ _ h3, e _ _ h4⟩
theorem put1 (v : V) : putF "forms" v [] = [(("forms" : Str), v)] := rfl
theorem put2 (v w : V) : putF "sizes" w (putF "forms" v []) = [(("forms" : Str), v), (("sizes" : Str), w)] := by
  rw [put1]
  unfold putF
  rw [if_neg (by decide)]
  rfl
def Nki : List Str := ["self", "rows", "at", "name", "fields", "field", "kind"]
theorem sc_ki : FnScope Nki ["self", "rows"] (defScope (mK 0)) := ⟨rfl, rfl, rfl, by decide +kernel, rfl, by decide +kernel, by decide +kernel⟩
def spKi (K : PySem.W.Frag) (C : Addr) : Sp := fun vs H Q _ => ∃ x dx r t fl p, vs = [.ref x, .ref r] ∧ H x = some (.ins C dx []) ∧ SqL K H r [.ref t] ∧ SqT K H t [.str "a", .ref fl] ∧ SqL K H fl [.ref p] ∧ SqT K H p [.str "n", .non] ∧
  ∀ H2, KindsOk H2 C x → (∀ a o, a ≠ x → H a = some o → H2 a = some o) → Q .non H2
section
variable {P : Program} {w : World} {K : PySem.W.Frag} {mg : Str → Option Value} {base : Heap} {f : Addr} {fd : FuncData} {C : Addr}
theorem ok_ki {fM : Addr} {fdM : FuncData} {t4 t8 : Tok} (F : MeP K "__init__" "Kinds.__init__" (mK 0) f fd) (kc : KC K C) (mM : Meth K C "may_follow" fM) (GM : FnOk P w K mg base CX0 2 fM fdM ["self", "name", "fields"] (spMay K C)) (bM : Binds K fdM ["self", "name", "fields"] [])
    (gL : mg "len" = none) (gE : mg "enumerate" = none) (gS : mg "sum" = none) (gK : mg "KINDS" = some (.int 4 t4)) (g8 : mg "SIZE" = some (.int 8 t8)) : FnOk P w K mg base CX0 3 f fd ["self", "rows"] (spKi K C) := by
  refine F.ok sc_ki (fun vs H Q E h => ?_) (fun cdv A outer s H vs Q E hr h => ?_)
  · obtain ⟨x, dx, r, t, fl, p, rfl, _⟩ := h
    rfl
  · obtain ⟨x, dx, r, t, fl, p, rfl, hx, h1, h2, h3, h4, k⟩ := h
    refine ⟨_, pss_cons (by
        exact ps_asg (pe_tup (pa_cons pe_dnewK (pa_cons pe_dnewK pa_nil))) (pg_tup rfl (pgs_cons (pg_fld (pv 0)) (pgs_cons (pg_fld (pv 0)) pgs_nil)))) <| pss_cons (by
        refine ps_if (pt_not (by
          exact pt_chain op_le op_le pe_int (pe_callB call_len_seq (by rfl) gL PySem.boot_len (pa_cons (pv 1) pa_nil)) (pe_glob (v := .int 4) (by rfl) gK ⟨_, rfl⟩))) pss_no pss_nil) <| pss_one (by
        refine ps_for (passes_of rfl) rfl (pi_enumS (by rfl) gE (pa_cons (pv 1) pa_nil)) (pg_tup rfl (pgs_cons (pg_name (i := 2) sc_ki.nd rfl (Or.inl rfl)) (pgs_cons (pg_tup rfl (pgs_cons (pg_name (i := 3) sc_ki.nd rfl (Or.inl rfl)) (pgs_cons (pg_name (i := 4) sc_ki.nd rfl (Or.inl rfl)) pgs_nil))) pgs_nil))) (pss_cons (by
          refine ps_if (pt_not (pt_val (by
            exact pe_meth (pv 0) kc.cls mM GM hr bM .nil pass0 (pa_cons (pv 3) (pa_cons (pv 4) pa_nil))) (by intro _; rfl))) pss_no pss_nil) <| pss_cons (by
          refine ps_dput (hu1 hr) (pe_fld (pv 0) rfl) (pv 3) (by
            exact pe_lc (own := [("field", 5), ("kind", 6)]) (g := gTup K 2 (gCons (gName 5) (gCons (gName 6) gNil))) (tt := tYes) (te := tTup (tCons (tVar 5) (tCons (tVar 6) tNil))) rfl sc_ki.nd (pi_list (pv 4)) (blkOk_by (by kernel_rfl)) (fun _ _ _ _ _ => pg_tup rfl (pgs_cons (pg_name (i := 5) sc_ki.nd rfl (Or.inl rfl)) (pgs_cons (pg_name (i := 6) sc_ki.nd rfl (Or.inl rfl)) pgs_nil))) (fun _ _ _ _ _ => pts_nil) (fun _ _ _ _ _ => by exact pe_tup (pa_cons (pv 5) (pa_cons (pv 6) pa_nil)))) rfl) <| pss_cons (by
          refine ps_dput (hu1 hr) (pe_fld (pv 0) rfl) (pv 3) (pe_op op_add pe_int (pe_callB (cr_sum rfl) (by rfl) gS boot_sum (pa_cons (by
            exact pe_lc (own := [("field", 5), ("kind", 6)]) (g := gTup K 2 (gCons (gName 5) (gCons (gName 6) gNil))) (tt := tTest (tOp (fun x y H Q => y = .non ∧ Q (.bl (!decide (x = .non))) H) (tVar 6) (tC .non))) (te := fun _ _ _ => False) rfl sc_ki.nd (pi_list (pv 4)) (blkOk_by (by kernel_rfl)) (fun _ _ _ _ _ => pg_tup rfl (pgs_cons (pg_name (i := 5) sc_ki.nd rfl (Or.inl rfl)) (pgs_cons (pg_name (i := 6) sc_ki.nd rfl (Or.inl rfl)) pgs_nil))) (fun _ _ _ _ _ => pts_one (by exact pt_cmpR op_notN (pv 6) pe_non (nomark _))) (fun _ _ _ _ _ => pe_no)) pa_nil))) rfl) <| pss_one (by
          exact ps_if (pt_cmpR op_gt (pe_dget (hu1 hr) (pe_fld (pv 0) rfl) (pv 3) (fun _ _ => rfl)) (pe_glob (v := .int 8) (by rfl) g8 ⟨_, rfl⟩) (by rfl)) pss_no pss_nil))), ?_⟩
    intro a ha b hb
    refine ⟨sz_of (n := 2) (by decide), fun T hT => ?_⟩
    have e1 : Ex H (upd (upd (upd H a (.dK [])) b (.dK [])) T (.tup [.ref a, .ref b])) := ((Ex.new ha).trans (Ex.new hb)).trans (Ex.new hT)
    have hab : a ≠ b := fun z => by rw [← z, upd_same] at hb; cases hb
    have haT : a ≠ T := fun z => by rw [← z, upd_ne hab, upd_same] at hT; cases hT
    have hbT : b ≠ T := fun z => by rw [← z, upd_same] at hT; cases hT
    have hax : a ≠ x := fun z => by rw [z, hx] at ha; cases ha
    have hbH : H b = none := fresh_back (Ex.new ha) hb
    have hbx : b ≠ x := fun z => by rw [z, hx] at hbH; cases hbH
    have ha3 : (upd (upd (upd H a (.dK [])) b (.dK [])) T (.tup [.ref a, .ref b])) a = some (.dK []) := by rw [upd_ne haT, upd_ne hab, upd_same]
    have hb3 : (upd (upd (upd H a (.dK [])) b (.dK [])) T (.tup [.ref a, .ref b])) b = some (.dK []) := by rw [upd_ne hbT, upd_same]
    have hx3 := e1 x _ hx
    refine ⟨T, _, rfl, st_of upd_same, rfl, .ref a, _, rfl, .ref x, rfl, x, C, dx, [], rfl, hx3, kc.cls, kc.forms, by decide, .ref b, _, rfl, .ref x, rfl, x, C, dx, _, rfl, upd_same, kc.cls, kc.sizes, (show (1 : Nat) < 1000 by decide), rfl, ?_⟩
    generalize upd (upd (upd H a (.dK [])) b (.dK [])) T (.tup [.ref a, .ref b]) = H3 at e1 ha3 hb3 hx3
    rw [put2, put1]
    dsimp only
    have old5 : Ex (upd H x (.ins C dx [("forms", .ref a), ("sizes", .ref b)])) (upd (upd H3 x (.ins C dx [("forms", .ref a)])) x (.ins C dx [("forms", .ref a), ("sizes", .ref b)])) := fun c o h => by
      by_cases z : c = x
      · subst z
        rw [upd_same] at h ⊢
        exact h
      · rw [upd_ne z] at h
        rw [upd_ne z, upd_ne z]
        exact e1 c o h
    have ha5 : (upd (upd H3 x (.ins C dx [("forms", .ref a)])) x (.ins C dx [("forms", .ref a), ("sizes", .ref b)])) a = some (.dK []) := by rw [upd_ne hax, upd_ne hax]; exact ha3
    have hb5 : (upd (upd H3 x (.ins C dx [("forms", .ref a)])) x (.ins C dx [("forms", .ref a), ("sizes", .ref b)])) b = some (.dK []) := by rw [upd_ne hbx, upd_ne hbx]; exact hb3
    generalize upd (upd H3 x (.ins C dx [("forms", .ref a)])) x (.ins C dx [("forms", .ref a), ("sizes", .ref b)]) = H5 at old5 ha5 hb5
    have g1 : SqL K (upd H x (.ins C dx [("forms", .ref a), ("sizes", .ref b)])) r [.ref t] := sqL_ins hx h1
    have g2 : SqT K (upd H x (.ins C dx [("forms", .ref a), ("sizes", .ref b)])) t [.str "a", .ref fl] := sqT_ins hx h2
    have g3 : SqL K (upd H x (.ins C dx [("forms", .ref a), ("sizes", .ref b)])) fl [.ref p] := sqL_ins hx h3
    have g4 : SqT K (upd H x (.ins C dx [("forms", .ref a), ("sizes", .ref b)])) p [.str "n", .non] := sqT_ins hx h4
    have gx : (upd H x (.ins C dx [("forms", .ref a), ("sizes", .ref b)])) x = some (.ins C dx [("forms", .ref a), ("sizes", .ref b)]) := upd_same
    have gold : ∀ c o, c ≠ x → H c = some o → (upd H x (.ins C dx [("forms", .ref a), ("sizes", .ref b)])) c = some o := fun c o z h => by rw [upd_ne z]; exact h
    have gna : (upd H x (.ins C dx [("forms", .ref a), ("sizes", .ref b)])) a = none := by rw [upd_ne hax]; exact ha
    have gnb : (upd H x (.ins C dx [("forms", .ref a), ("sizes", .ref b)])) b = none := by rw [upd_ne hbx]; exact hbH
    generalize upd H x (.ins C dx [("forms", .ref a), ("sizes", .ref b)]) = Hb at old5 g1 g2 g3 g4 gx gold gna gnb
    refine q_no ?_ fun H6 e6 => ?_
    · exact et_is (et_not (et_test (et_chain (x := 1) (y := 1) (z := 4) ev_c (ev_lenQ (ev_var rfl) (.inl (ex_l old5 g1))) ev_c (by decide) (by decide)))) rfl
    refine s_forW (H0 := Hb) (n := 1) (ew_enum (ea_cons (ev_var rfl) ea_nil) (.inl g1)) (old5.trans e6) (fun i σ' H' => ∃ p2 p3 p4 p5 p6, σ' = [some (.ref x), some (.ref r), p2, p3, p4, p5, p6] ∧ Ex Hb H' ∧ (i = 0 → H' a = some (.dK []) ∧ H' b = some (.dK [])) ∧ (i = 1 → KindsOk H' C x)) ?_ (fun i σ' H' _ z => ?_) ?_ ?_
    · intro H7 e7
      exact ⟨_, _, _, _, _, rfl, (old5.trans e6).trans e7, fun _ => ⟨e7 a _ (e6 a _ ha5), e7 b _ (e6 b _ hb5)⟩, fun z => (nomatch z)⟩
    · obtain ⟨p2, p3, p4, p5, p6, _, z, _⟩ := z
      exact z
    · rintro i x1 σ' H' H7 hi ⟨p2, p3, p4, p5, p6, rfl, e7, hab0, _⟩ ⟨T2, v5, x6, rfl, hT2, rfl, h5, h6⟩
      have hi : i = 0 := by omega
      subst hi
      obtain ⟨ha7, hb7⟩ := hab0 rfl
      have h6 : V.ref t = x6 := Option.some.inj h6
      subst h6
      have eT : Ex H' (upd H' T2 (.tup [v5, .ref t])) := Ex.new hT2
      have e8 := e7.trans eT
      refine g_nest (st_of upd_same) (ex_t e8 g2) ?_
      refine q_no (et_is (et_not (et_B (ev_meth (z := .bl true) (ev_var rfl) (e8 x _ gx) rfl (ea_cons (ev_var rfl) (ea_cons (ev_var rfl) ea_nil)) (RetV.call fun H9 e9 Q E q => ⟨x, dx, _, a, fl, p, rfl, e9 x _ (e8 x _ gx), rfl, .inl (e9 a _ (eT a _ ha7)), ex_l (e8.trans e9) g3, ex_t (e8.trans e9) g4, q⟩)))) rfl) fun H9 e9 => ?_
      have e09 := e8.trans e9
      have ha9 : H9 a = some (.dK []) := e9 a _ (eT a _ ha7)
      have hb9 : H9 b = some (.dK []) := e9 b _ (eT b _ hb7)
      refine q_dputB (k := .inr "a") (a := a) (kvs := []) (Pp := fun ys H3 => ∃ p, ys = [.ref p] ∧ H3 p = some (.tup [.str "n", .non])) ?_ (fun H10 e10 => ev_fld (ev_var rfl) ((e09.trans e10) x _ gx) kc.cls kc.forms rfl) (fun H10 e10 => ev_var rfl) ha9 (by decide) fun q ys H11 hq e11 hq10 z10 => ?_
      · exact en_lc1T (zs := [.str "n", .non]) (by simp) (ev_var rfl) (ex_l e09 g3) fun H10 e10 Q q => g_two (ex_t (e09.trans e10) g4) (q _ rfl (ea_cons (ev_var rfl) (ea_cons (ev_var rfl) ea_nil)))
      obtain ⟨p', rfl, hp'⟩ := z10
      have e11' : Ex Hb (upd H11 a (.dK (putK [] (.inr "a") (.ref q)))) := Ex.mut (e09.trans e11) gna
      have hqa : q ≠ a := fun z => by rw [z, ha9] at hq; cases hq
      have hp9 : p' ≠ a := fun z => by rw [z, e11 a _ ha9] at hp'; cases hp'
      have hqb : q ≠ b := fun z => by rw [z, hb9] at hq; cases hq
      have hpb : p' ≠ b := fun z => by rw [z, e11 b _ hb9] at hp'; cases hp'
      refine q_dput (v := .int 1) (k := .inr "a") (kvs := []) (a := b) ?_ (ev_fld (ev_var rfl) (e11' x _ gx) kc.cls kc.sizes rfl) (ev_var rfl) (by rw [upd_ne (Ne.symm hab)]; exact e11 b _ hb9) (by decide) fun H12 e12 => ?_
      · refine ev_op (x := .int 1) (y := .int 0) ev_c (ev_sum0 (el_lc1n (ev_var rfl) (ex_l e11' g3) fun H12 e12 Q q => g_two (ex_t (e11'.trans e12) g4) (q _ rfl ?_))) rv_I0
        exact et_test (ev_op (x := .non) (y := .non) (z := .bl false) (ev_var rfl) ev_c fun H13 e13 Q q => ⟨rfl, q H13 (Ex.refl _)⟩)
      have e13 : Ex Hb (upd H12 b (.dK (putK [] (.inr "a") (.int 1)))) := Ex.mut (e11'.trans e12) gnb
      refine s_when (b := false) (et_test (ev_is (ev_op (x := .int 1) (y := .int 8) (ev_dget (k := .inr "a") (v := .int 1) (ev_fld (ev_var rfl) (e13 x _ gx) kc.cls kc.sizes rfl) (ev_var rfl) (.inl upd_same) rfl) ev_c rv_I0) rfl)) (fun z => nomatch z) fun _ H14 e14 => ?_
      refine ⟨_, _, _, _, _, rfl, e13.trans e14, fun z => (nomatch z), fun _ => ⟨dx, a, b, q, p', e14 x _ (e13 x _ gx), e14 a _ ?_, e14 q _ ?_, e14 p' _ ?_⟩⟩
      · rw [upd_ne hab]
        exact e12 a _ upd_same
      · rw [upd_ne hqb]
        exact e12 q _ (by rw [upd_ne hqa]; exact hq10)
      · rw [upd_ne hpb]
        exact e12 p' _ (by rw [upd_ne hp9]; exact hp')
    · rintro σ' H' ⟨p2, p3, p4, p5, p6, rfl, e7, _, hk⟩
      exact k H' (hk rfl) fun c o z h => e7 c o (gold c o z h)
end
end Cp

/-! a, *b = a tuple. -/
namespace GN
open PySem PySem.Spec PySem.Calls PyProof.Rows PySem.W
section
variable {prog : Program} {w : World} {A : Around} {E : Value → Shared → Prop} {s : Shared}
theorem unpack_star {l : Addr} {items : Array Value} {x : Value} {rest : List Value} {Q : List Value → Shared → Prop} (hl : IsTup s.heap l items) (hh : A.handled = none) (hx : items.toList = x :: rest) (hz : items.size ≤ 16384)
    (h : ∀ h' tk, (∀ b o, s.heap.get? b = some o → h'.get? b = some o) → wpAny (model prog w) A (newList rest) (fun d => Q [x, d]) E { s with heap := h', toks := tk }) : wpAny (model prog w) A (unpackItems (.ref l) 2 (some 1)) Q E s := by
  have hsz : items.size = rest.length + 1 := by rw [← Array.length_toList, hx, List.length_cons]
  have hlt : l ≠ s.heap.objs.size := by
    obtain ⟨o, ho, _⟩ := hl
    exact Nat.ne_of_lt (Heap.lt_size ho)
  unfold unpackItems
  refine wpAny_bind ?_
  unfold notIterableAtAll
  refine wpAny_bind (wpAny_specialOf hl.typeIs slot_tuple_iter.lookup (wpAny_pure ?_))
  simp only [Bool.false_eq_true, if_false]
  refine wpAny_bind (wpAny_holding (iter_tuple hl ?_))
  refine wpAny_bind (wpAny_holding (draw_tuple hlt 1 0 _ _ ⟨_, Heap.get?_push_size _ rfl, rfl, rfl⟩ (hl.push _) (by omega) fun h₁ hit₁ hs₁ => ?_))
  have hl₁ : IsTup h₁ l items := (hl.push _).extBut hs₁.extBut hlt
  rw [Nat.zero_add] at hit₁
  obtain ⟨oi, hoi, _⟩ := id hit₁
  obtain ⟨ol, hol, _⟩ := id hl₁
  rw [List.drop_zero]
  have h1 : items.toList.take 1 = [x] := by rw [hx]; rfl
  have h2 : items.toList.drop 1 = rest := by rw [hx]; rfl
  rw [h1, if_neg (show ¬ ([x].length < 1) by simp)]
  refine wpAny_bind (wpAny_holding (kun_collect (s := { s with heap := h₁ }) (T := "tuple_iterator") (.inr (.inr (.inr rfl))) (Walks.tuple (A := A.in1) hh s.heap.objs.size l hlt items) (fun j u st => st.1.typeIs) (k := 1) (by omega) ⟨hit₁, hl₁⟩ (Heap.lt_size hoi) (Heap.lt_size hol) (fun h₂ tk hk => ?_) (by rw [sizeLine_eq]; omega)))
  rw [h2]
  show wpAny _ _ (if rest.length < 2 - 1 - 1 then _ else _) _ E _
  rw [if_neg (by omega)]
  show wpAny _ _ (newList (rest.take (rest.length - 0)) >>= fun d => pure ([x] ++ [d] ++ rest.drop (rest.length - 0))) _ E _
  rw [Nat.sub_zero, List.take_length, List.drop_length]
  have he : ∀ b o, s.heap.get? b = some o → h₂.get? b = some o := fun b o e => by
    have hb : b ≠ s.heap.objs.size := Nat.ne_of_lt (Heap.lt_size e)
    exact hk b o hb (hs₁.extBut b o hb (Heap.get?_push_of_some _ e))
  exact wpAny_bind (wpAny_mono (h h₂ tk he) (fun d s' q => wpAny_pure q) fun _ _ z => z)
end
open L2 in
/-- a, *b = t: a in slot i, the rest as a new list in slot j -/
def gStar (K : PySem.W.Frag) (i j : Nat) : L2.TG := fun v σ H Q => ∃ a x xs, v = .ref a ∧ SqT K H a (x :: xs) ∧ xs.length ≤ 1000 ∧ ∀ p, H p = none → Q ((σ.set i (some x)).set j (some (.ref p))) (upd H p (.lst xs))
open L2 in
theorem pg_star {X : Cx} {x1 x2 : Str} {p1 p2 p3 pos : Pos} {kk i j : Nat} (hc : X.calm = true) (hN : X.N.Nodup) (hi : X.N[i]? = some x1) (hj : X.N[j]? = some x2) (l1 : Loc X.env.scope x1) (l2 : Loc X.env.scope x2) (f1 : X.fn x1 = true ∨ X.env.scope.names.lookup x1 = some .local) (f2 : X.fn x2 = true ∨ X.env.scope.names.lookup x2 = some .local)
    (ha : ∀ v1 v2, assignInOrder ((assignEach [.Name x1 p1, .Starred (.Name x2 p2) p3] X.env).map (·.2)) [v1, v2] = assignInOrder ((assignEach [.Name x1 p1, .Name x2 p2] X.env).map (·.2)) [v1, v2] := by intro _ _; rfl)
    (hn : (assignEach [.Name x1 p1, .Starred (.Name x2 p2) p3] X.env).length = 2 := by rfl) (hst : (assignEach [.Name x1 p1, .Starred (.Name x2 p2) p3] X.env).findIdx? (·.1) = some 1 := by rfl) : PG X (.Tuple [.Name x1 p1, .Starred (.Name x2 p2) p3] kk pos) (gStar X.K i j) := by
  refine ⟨fun pins s σ H v u Q I r hw => ?_⟩
  obtain ⟨a, x, xs, rfl, hq, hl, q⟩ := hw
  obtain rfl : u = Value.ref a := r
  obtain ⟨its, rv, p, hz⟩ := I.tuple hq
  cases rv with
  | cons rx rr =>
    rename_i ux ur
    rw [assign_Tuple]
    refine wpAny_bind (wpAny_standAt ?_)
    unfold unpack
    rw [hn, hst]
    have lr := rr.length
    refine wpAny_bind (wpAny_holding (unpack_star (l := a) (items := (ux :: ur).toArray) (x := ux) (rest := ur) p (I.ok.hd hc) rfl (by simp; omega) fun h' tk hk => ?_))
    have I1 : Inv X pins σ H { s with heap := h', toks := tk } := I.kept hk
    have hsz : (ur.length : Nat) ≤ sizeLine := by rw [← lr]; exact Nat.le_trans hl (by decide)
    refine wpAny_newList ?_ hsz
    have hq2 := q h'.objs.size (I1.hok.fresh (Nat.le_refl _))
    have I2 : Inv X pins σ (upd H h'.objs.size (.lst xs)) { s with heap := h'.push { cls := .type "list", data := .seq ur.toArray }, toks := tk } := I1.laid (t' := tk) (fun b o e => Heap.get?_push_of_some _ e) (Nat.le_refl _) ⟨by rw [lr]; exact hsz, ur, 0, rr, Heap.get?_push_size _ rfl⟩
    rw [ha]
    exact (pgs_cons (X := X) (pg_name hN hi l1 f1) (pgs_cons (pg_name hN hj l2 f2) pgs_nil)).run pins _ σ _ [x, .ref h'.objs.size] _ Q I2 (.cons rx (.cons rfl .nil)) ⟨x, _, rfl, .ref h'.objs.size, _, rfl, rfl, hq2⟩
end GN

namespace Cp
open PySem PySem.Spec PyProof.Rows L2 Evl GN GZ GF
/-- a new tuple, told by a word -/
def EvTp (te : TE) (σ : L2.St) (H : Hp) (Pp : Addr → Hp → Prop) : Prop := ∀ H1, Ex H H1 → ∀ Q : VK, (∀ p H2, H1 p = none → Ex H1 H2 → (∀ H3, Kp H H1 H2 H3 → Pp p H3) → Q (.ref p) H2) → te σ H1 Q
/-- d[k] = a new tuple -/
theorem s_dputT {σ : L2.St} {H G : Hp} {td ty tv : TE} {D : Ends} {Pp : Addr → Hp → Prop} {a : Addr} {k : L2.Key} {kvs : List (L2.Key × V)} (hv : EvTp tv σ G Pp) (e0 : Ex G H) (hd : ∀ H1, Ex H H1 → Ev td σ H1 (.ref a)) (hy : ∀ H1, Ex H H1 → Ev ty σ H1 (kV k)) (h : H a = some (.dK kvs)) (hl : kvs.length < 100000)
    (kk : ∀ p H1, H p = none → Ex H H1 → (∀ H3, Kp G H H1 H3 → Pp p H3) → D.nx σ (upd H1 a (.dK (putK kvs k (.ref p))))) : sDPut td ty tv D σ H := hv H e0 _ fun p H1 n e1 z => hd H1 e1 H1 (Ex.refl H1) _ fun H2 e2 => hy H2 (e1.trans e2) H2 (Ex.refl H2) _ fun H3 e3 =>
  ⟨a, _, rfl, DPut.k (((e1.trans e2).trans e3) a _ h) (sz_lt hl), kk p H3 n ((e1.trans e2).trans e3) fun H4 k4 => z H4 ⟨k4.old, fun c o n hc => k4.new c o n (e3 c o (e2 c o hc))⟩⟩
theorem q_asgW {σ : L2.St} {H : Hp} {te : TE} {g : L2.TG} {tz : TS} {D : Ends} (h : te σ H fun v H1 => g v σ H1 (tz D)) : tSeq (tAsg te g) tz D σ H := h
/-- what calls need -/
structure Cal (P : Program) (w : World) (K : PySem.W.Frag) (mg : Str → Option Value) (base : Heap) (x : Str) (k : Nat) (ps : List Str) (sp : Sp) where
  f : Addr
  fd : FuncData
  G : FnOk P w K mg base CX0 k f fd ps sp
  g : mg x = some (.ref f)
  k : PySem.W.keepIn K (.ref f) = true
  b : Binds K fd ps []
structure Mcal (P : Program) (w : World) (K : PySem.W.Frag) (mg : Str → Option Value) (base : Heap) (C : Addr) (x : Str) (CX : CXT) (k : Nat) (ps : List Str) (sp : Sp) where
  f : Addr
  fd : FuncData
  m : Meth K C x f
  G : FnOk P w K mg base CX k f fd ps sp
  b : Binds K fd ps []
end Cp

namespace Cp
open PySem PySem.Spec PyProof.Rows L2 Evl GN GZ
/-- len(x), by the class's own __len__ -/
theorem own_len {prog : Program} {w : World} {A : Around} {E : Value → Shared → Prop} {s : Shared} {K : PySem.W.Frag} {x C f : Addr} {ox : Obj} {od : Option Obj} {Q : Value → Shared → Prop} (X : K.In s.heap) (I : PySem.W.InstAt s.heap x ox C od) (hs : PySem.W.findIn K (.ref C) "__len__" = some (some (.ref f))) (hf : PySem.W.isFn K (.ref f) = true)
    (h : wpAny (model prog w) A.in1 (call (.ref f) [.ref x]) (PySem.W.LenBack Q) E s) : wpAny (model prog w) A (call (.builtin "len") [.ref x]) Q E s := by
  refine Calls.call_function_entry PySem.kind_len PySem.plain_len PySem.entry_len (PySem.args_len1 _) ?_
  unfold Builtin.«len»
  refine wpAny_bind (wpAny_pure ?_)
  refine wpAny_bind (m := callSpecial? (.ref x) (Str.ofString "__len__")) (PySem.W.special_fn X I hs (beq_iff_eq.mp hf) (wpAny_mono h (fun r s' hr => ?_) fun _ _ y => y))
  cases r <;> first | exact hr.elim | skip
  rename_i n u
  obtain ⟨⟨h0, h1⟩, hq⟩ := hr
  refine wpAny_bind (wpAny_holding (wpAny_pure ?_))
  refine wpAny_bind (wpAny_letGo ?_)
  show wpAny _ _ (if n < 0 then _ else _) _ _ _
  rw [if_neg (by omega)]
  show wpAny _ _ (if n ≥ 2 ^ 63 then _ else _) _ _ _
  rw [if_neg (by omega)]
  exact wpAny_bind (wpAny_mkInt (wpAny_pure ⟨_, rfl, hq⟩))
/-- len(o), its class' __len__ keeping sp -/
theorem call_lenOwn {X : Cx} {CX : CXT} {k : Nat} {C f : Addr} {fd : FuncData} {ps : List Str} {sp : Sp} {E : XK} (hs : PySem.W.findIn X.K (.ref C) "__len__" = some (some (.ref f))) (hf : PySem.W.isFn X.K (.ref f) = true) (F : FnOk X.prog X.w X.K X.mg X.base CX k f fd ps sp) (hr : Room (k + 1) X.A) (hb : Binds X.K fd ps []) (hx : Passes CX X E) :
    CallR X (.builtin "len") (fun xs H Q => ∃ a dx fs, xs = [.ref a] ∧ H a = some (.ins C dx fs) ∧ sp [.ref a] H (fun v H2 => ∃ n : Nat, v = .int (n : Int) ∧ n < 1000000 ∧ Q v H2) E) := by
  intro pins s σ H xs us Q I r h
  obtain ⟨a, dx, fs, rfl, ha, q⟩ := h
  obtain ⟨u, rfl, rx⟩ := vals1 r
  obtain rfl : u = Value.ref a := rx
  obtain ⟨mA, O, _⟩ := ins_get I.hok ha
  obtain ⟨od, Ia, _⟩ := O.look
  have r2 : Vals [V.ref a] [Value.ref a] := .cons rfl .nil
  have hl : ([Value.ref a] ++ ([] : List Value)).length = ps.length := by
    rw [List.append_nil, ← r2.length]
    exact F.len _ _ _ _ q
  refine own_len I.kIn Ia hs hf (wpAny_call (codeAny_mono (F.run X.A.in1 X.stack s H ⟨[.ref a], []⟩ [.ref a] [.ref a] _ E hr.in1 I.env0.in1 (hb s [.ref a] I.kIn hl) r2 q) fun r s' hq => ?_))
  cases r with
  | error e => exact hx pins σ H s e s' I hq
  | ok fl =>
    cases fl with
    | ret u =>
      obtain ⟨v, H', os, bare, un, hok, rv, n, rfl, hn, hQ⟩ := hq
      obtain ⟨t, rfl⟩ := rv
      obtain ⟨v2, H2, I2, _, e2, q2⟩ := I.after (Q := fun v H2 => v = .int (n : Int) ∧ Q (.int (n : Int)) H2) ⟨.int (n : Int), H', os, bare, un, hok, ⟨t, rfl⟩, rfl, hQ⟩
      exact ⟨⟨by omega, by omega⟩, .int (n : Int), H2, I2.tok _, ⟨_, rfl⟩, q2⟩
    | next => exact False.elim hq
    | brk => exact False.elim hq
    | cont => exact False.elim hq
end Cp

/-! The law's bag: _law_bag, _law_take, _law_pick. -/
namespace Cp
open PySem PySem.Spec PyProof.Rows L2 Evl GN GZ
def BagOk (K : PySem.W.Frag) (H : Hp) (b l : Addr) : Prop := ∃ (ns : List Int) (i : Nat) (big seed cnt : Int), H b = some (.lst [.ref l, .int (i : Nat), .int big, .int seed, .int cnt]) ∧ H l = some (.lst (ns.map V.int)) ∧ l ≠ b
theorem sqL_at {K : PySem.W.Frag} {H H' : Hp} {l b : Addr} {xs : List V} (hl : l ≠ b) (k : ∀ a o, a ≠ b → H a = some o → H' a = some o) (h : SqL K H l xs) : SqL K H' l xs := by
  rcases h with (h | ⟨o, h⟩) | h
  · exact .inl (.inl (k _ _ hl h))
  · exact .inl (.inr ⟨o, k _ _ hl h⟩)
  · exact .inr h
/-- all but b stands -/
def But (b : Addr) (H H' : Hp) : Prop := ∀ a o, a ≠ b → H a = some o → H' a = some o
theorem But.refl {b : Addr} {H : Hp} : But b H H := fun _ _ _ h => h
theorem But.ex {b : Addr} {H H1 H2 : Hp} (x : But b H H1) (e : Ex H1 H2) : But b H H2 := fun a o ha h => e a o (x a o ha h)
theorem But.mut {b : Addr} {H H1 : Hp} {o : HO} (x : But b H H1) : But b H (upd H1 b o) := fun a o' ha h => by
  rw [upd_ne ha]
  exact x a o' ha h
theorem But.trans {b : Addr} {H H1 H2 : Hp} (x : But b H H1) (y : But b H1 H2) : But b H H2 := fun a o ha h => y a o ha (x a o ha h)
theorem ex_but {b : Addr} {H H1 : Hp} (e : Ex H H1) : But b H H1 := fun a o _ h => e a o h
def spTake (K : PySem.W.Frag) : Sp := fun vs H Q _ => ∃ b l m, vs = [.ref b, .int m] ∧ 1 ≤ m ∧ m ≤ 1000000000000000000 ∧ BagOk K H b l ∧ ∀ r H2, 0 ≤ r → r < m → But b H H2 → BagOk K H2 b l → Q (.int r) H2
abbrev tyTake : List Str := ["_law_bag_here", "_law_many", "_law_entry", "_law_found", "_law_step"]
theorem sc_take : FnScope tyTake ["_law_bag_here", "_law_many"] (defScope (top 98)) := ⟨rfl, rfl, rfl, by decide +kernel, rfl, by decide +kernel, by decide +kernel⟩
section
variable {K : PySem.W.Frag} {σ : L2.St} {H : Hp}
theorem ev_int {te : TE} {z : Int} (h : Ev te σ H (.int z)) : Ev (tCB (fun xs H Q => (∃ i, xs = [V.int i] ∧ Q (V.int i) H) ∨ ∃ k, xs = [V.bl k] ∧ Q (V.int (if k then 1 else 0)) H) (tCons te tNil)) σ H (.int z) := fun H1 e Q q => h H1 e _ fun H2 e2 => .inl ⟨z, rfl, q H2 e2⟩
end
section
variable {P : Program} {w : World} {K : PySem.W.Frag} {mg : Str → Option Value} {base : Heap} {f : Addr} {fd : FuncData}
theorem ok_take (F : FnP K "_law_take" (top 98) [] f fd) (gL : mg "len" = none) (gI : mg "int" = none) : FnOk P w K mg base CX0 1 f fd ["_law_bag_here", "_law_many"] (spTake K) := by
  refine F.ok sc_take (fun vs H Q E h => ?_) (fun cdv A outer s H vs Q E hr h => ?_)
  · obtain ⟨b, l, m, rfl, _⟩ := h
    rfl
  · obtain ⟨b, l, m, rfl, hm1, hm2, ⟨ns, i, big, seed, cnt, hb, hl, hlb⟩, k⟩ := h
    refine ⟨_, pss_cut (by
        exact ps_if (PW.pt (pw_and (pt_cmpR op_eq (pe_ix ix_list (pv 0) pe_int (fun _ _ => rfl)) pe_int (nomark _)) (pw_and1 (by
          exact pt_cmpR op_lt (pe_ix ix_list (pv 0) pe_int (fun _ _ => rfl)) (pe_callB call_len_seq (by rfl) gL PySem.boot_len (pa_cons (pe_ix ix_list (pv 0) pe_int (fun _ _ => rfl)) pa_nil)) (nomark _))))) (pss_cons (by
            exact ps_asg (pe_ix ix_list (pe_ix ix_list (pv 0) pe_int (fun _ _ => rfl)) (pe_ix ix_list (pv 0) pe_int (fun _ _ => rfl)) (fun _ _ => rfl)) (pg_name (i := 2) sc_take.nd rfl (Or.inl rfl))) <| pss_cons (by
            exact ps_asg (pe_op op_add (pe_ix ix_list (pv 0) pe_int (fun _ _ => rfl)) pe_int) (pg_sub (pv 0) pe_int set_list)) <| pss_one (by
            exact ps_if (pt_cmpR op_ge (pv 2) (pe_op op_pow pe_int pe_int) (nomark _)) (pss_one (ps_asg (pv 2) (pg_sub (pv 0) pe_int set_list))) (pss_one (by
              exact ps_asg (pe_op op_mod (pe_op op_add (pe_op op_add (pe_op op_mul (pe_ix ix_list (pv 0) pe_int (fun _ _ => rfl)) pe_int) (pe_op op_mod (pe_callTy call_int1 (by rfl) gI boot_int (pa_cons (pv 2) pa_nil)) pe_int)) pe_int) pe_int) (pg_sub (pv 0) pe_int set_list))))) pss_nil) <| pss_cons (by
        exact ps_if (pt_cmpR op_gt (pe_ix ix_list (pv 0) pe_int (fun _ _ => rfl)) pe_int (nomark _)) (pss_cons (by
            exact ps_asg (pe_op op_mod (pe_callTy call_int1 (by rfl) gI boot_int (pa_cons (pe_ix ix_list (pv 0) pe_int (fun _ _ => rfl)) pa_nil)) (pv 1)) (pg_name (i := 3) sc_take.nd rfl (Or.inl rfl))) <| pss_cons (by
            exact ps_asg (pe_op op_fdivW (pe_ix ix_list (pv 0) pe_int (fun _ _ => rfl)) (pv 1)) (pg_sub (pv 0) pe_int set_list)) <| pss_one (ps_ret (pv 3))) pss_nil) <| pss_cons (by
        exact ps_asg (pe_op op_add (pe_ix ix_list (pv 0) pe_int (fun _ _ => rfl)) pe_int) (pg_sub (pv 0) pe_int set_list)) <| pss_cons (by
        exact ps_asg (pe_op op_mod (pe_op op_add (pe_ix ix_list (pv 0) pe_int (fun _ _ => rfl)) (pe_op op_mul (pe_ix ix_list (pv 0) pe_int (fun _ _ => rfl)) pe_int)) pe_int) (pg_name (i := 4) sc_take.nd rfl (Or.inl rfl))) <| pss_cons (by
        exact ps_asg (pe_op op_mod (pe_op op_add (pe_op op_add (pe_op op_pow (pv 4) pe_int) (pe_op op_mul pe_int (pv 4))) pe_int) pe_int) (pg_sub (pv 0) pe_int set_list)) <| pss_one (by
        exact ps_ret (pe_op op_mod (pe_op op_add (pe_op op_fdiv (pe_ix ix_list (pv 0) pe_int (fun _ _ => rfl)) pe_int) (pe_op op_mul (pe_op op_mod (pe_callTy call_int1 (by rfl) gI boot_int (pa_cons (pe_ix ix_list (pv 0) pe_int (fun _ _ => rfl)) pa_nil)) pe_int) pe_int)) (pv 1))), ?_⟩
    refine q_cut (M := fun σ' H' => ∃ p2, σ' = [some (.ref b), some (.int m), p2, none, none] ∧ But b H H' ∧ BagOk K H' b l) ?_ ?_
    · have hlen : ((ns.map V.int).length : Int) = ns.length := by rw [List.length_map]
      refine s_when (et_and (et_eq (ev_ixL (i := 2) (v := .int big) (ev_var rfl) ev_c (sq_of hb) rfl) ev_c rfl) fun _ => et_test (ev_op (ev_ixL (i := 1) (v := .int (i : Nat)) (ev_var rfl) ev_c (sq_of hb) rfl) (ev_len (ev_ixL (i := 0) (v := .ref l) (ev_var rfl) ev_c (sq_of hb) rfl) (sq_of hl)) rv_I0)) (fun hc H1 e1 => ?_) fun hc H1 e1 => ⟨_, rfl, ex_but e1, ns, i, big, seed, cnt, e1 b _ hb, e1 _ _ hl, hlb⟩
      have hi : i < ns.length := by
        have h2 := of_decide_eq_true (Bool.and_eq_true_iff.mp hc).2
        omega
      have hn : (ns.map V.int)[i]? = some (.int ns[i]) := by
        rw [List.getElem?_map, List.getElem?_eq_getElem hi]
        rfl
      have hb1 := e1 b _ hb
      refine q_asg (v := .int ns[i]) (ev_ixL (i := i) (ev_ixL (i := 0) (v := .ref l) (ev_var rfl) ev_c (sq_of hb1) rfl) (ev_ixL (i := 1) (v := .int (i : Nat)) (ev_var rfl) ev_c (sq_of hb1) rfl) (sq_of (e1 _ _ hl)) hn) fun H2 e2 => ?_
      have hb2 := e2 b _ hb1
      refine q_setL (j := 1) (v := .int ((i : Nat) + 1)) hb2 (ev_op (x := .int (i : Nat)) (y := .int 1) (ev_ixL (i := 1) (v := .int (i : Nat)) (ev_var rfl) ev_c (sq_of hb2) rfl) ev_c rv_I0) (ev_var rfl) ev_c (by simp) fun H3 e3 => ?_
      have but3 : But b H (upd H3 b (.lst ([V.ref l, .int (i : Nat), .int big, .int seed, .int cnt].set 1 (.int ((i : Nat) + 1))))) := ((ex_but (e1.trans e2)).ex e3).mut
      refine s_if (et_test (ev_op (ev_var rfl) (ev_op (x := .int 10) (y := .int 18) ev_c ev_c (rv_I ⟨by decide, by decide, by decide⟩)) rv_I0)) (fun _ H4 e4 => ?_) fun _ H4 e4 => ?_
      · refine s_setL (j := 2) (v := .int ns[i]) (e4 b _ upd_same) (ev_var rfl) (ev_var rfl) ev_c (by simp) fun H5 e5 => ?_
        exact ⟨_, rfl, ((but3.ex e4).ex e5).mut, ns, i + 1, ns[i], seed, cnt, upd_same, ((but3.ex e4).ex e5).mut _ _ hlb hl, hlb⟩
      · have hb4 := e4 b _ upd_same
        refine s_setL (j := 3) (v := .int ((seed * 30011 + ns[i] % 2147483587 + 5) % 2147483647)) hb4 (ev_op (x := .int (seed * 30011 + ns[i] % 2147483587 + 5)) (y := .int 2147483647) (ev_op (x := .int (seed * 30011 + ns[i] % 2147483587)) (y := .int 5) (ev_op (x := .int (seed * 30011)) (y := .int (ns[i] % 2147483587)) (ev_op (x := .int seed) (y := .int 30011) (ev_ixL (i := 3) (v := .int seed) (ev_var rfl) ev_c (sq_of hb4) rfl) ev_c (rv_I (.inr ⟨by decide, by decide⟩))) (ev_op (x := .int ns[i]) (y := .int 2147483587) (ev_int (ev_var rfl)) ev_c (rv_I (by decide))) rv_I0) ev_c rv_I0) ev_c (rv_I (by decide))) (ev_var rfl) ev_c (by simp) fun H5 e5 => ?_
        exact ⟨_, rfl, ((but3.ex e4).ex e5).mut, ns, i + 1, big, _, cnt, upd_same, ((but3.ex e4).ex e5).mut _ _ hlb hl, hlb⟩
    · rintro σ' H1 ⟨p2, rfl, but1, ns, i, big, seed, cnt, hb, hl, hlb⟩
      have m0 : (0 : Int) < m := by omega
      refine q_when (et_test (ev_op (ev_ixL (i := 2) (v := .int big) (ev_var rfl) ev_c (sq_of hb) rfl) ev_c rv_I0)) (fun _ H2 e2 => ?_) fun _ H2 e2 => ?_
      · have hb2 := e2 b _ hb
        refine q_asg (v := .int (big % m)) (ev_op (x := .int big) (y := .int m) (ev_int (ev_ixL (i := 2) (v := .int big) (ev_var rfl) ev_c (sq_of hb2) rfl)) (ev_var rfl) (rv_I m0)) fun H3 e3 => ?_
        have hb3 := e3 b _ hb2
        refine q_setL (j := 2) (v := .int (big / m)) hb3 (ev_op (x := .int big) (y := .int m) (ev_ixL (i := 2) (v := .int big) (ev_var rfl) ev_c (sq_of hb3) rfl) (ev_var rfl) (rv_I (wide_div (b := 64) m0 (show m.natAbs < 18446744073709551616 by omega) (by decide) (by decide)))) (ev_var rfl) ev_c (by simp) fun H4 e4 => ?_
        refine s_ret (v := .int (big % m)) (ev_var rfl) fun H5 e5 => ?_
        have bt : But b H1 (upd H4 b (.lst ([V.ref l, .int (i : Nat), .int big, .int seed, .int cnt].set 2 (.int (big / m))))) := (((ex_but e2).ex e3).ex e4).mut
        exact k _ H5 (Int.emod_nonneg _ (by omega)) (Int.emod_lt_of_pos _ m0) ((but1.trans bt).ex e5) ⟨ns, i, _, seed, cnt, e5 b _ upd_same, (bt.ex e5) _ _ hlb hl, hlb⟩
      · have hb2 := e2 b _ hb
        refine q_setL (j := 4) (v := .int (cnt + 1)) hb2 (ev_op (x := .int cnt) (y := .int 1) (ev_ixL (i := 4) (v := .int cnt) (ev_var rfl) ev_c (sq_of hb2) rfl) ev_c rv_I0) (ev_var rfl) ev_c (by simp) fun H3 e3 => ?_
        have hb3 : (upd H3 b (.lst ([V.ref l, .int (i : Nat), .int big, .int seed, .int cnt].set 4 (.int (cnt + 1))))) b = some (.lst [V.ref l, .int (i : Nat), .int big, .int seed, .int (cnt + 1)]) := upd_same
        have bt3 : But b H1 (upd H3 b (.lst ([V.ref l, .int (i : Nat), .int big, .int seed, .int cnt].set 4 (.int (cnt + 1))))) := ((ex_but e2).ex e3).mut
        generalize upd H3 b (.lst ([V.ref l, .int (i : Nat), .int big, .int seed, .int cnt].set 4 (.int (cnt + 1)))) = H4 at hb3 bt3 ⊢
        refine q_asg (v := .int ((seed + (cnt + 1) * 7331) % 2147483647)) (ev_op (x := .int (seed + (cnt + 1) * 7331)) (y := .int 2147483647) (ev_op (x := .int seed) (y := .int ((cnt + 1) * 7331)) (ev_ixL (i := 3) (v := .int seed) (ev_var rfl) ev_c (sq_of hb3) rfl) (ev_op (x := .int (cnt + 1)) (y := .int 7331) (ev_ixL (i := 4) (v := .int (cnt + 1)) (ev_var rfl) ev_c (sq_of hb3) rfl) ev_c (rv_I (.inr ⟨by decide, by decide⟩))) rv_I0) ev_c (rv_I (by decide))) fun H5 e5 => ?_
        have s0 : 0 ≤ (seed + (cnt + 1) * 7331) % 2147483647 := Int.emod_nonneg _ (by decide)
        have s1 : (seed + (cnt + 1) * 7331) % 2147483647 < 2147483647 := Int.emod_lt_of_pos _ (by decide)
        generalize (seed + (cnt + 1) * 7331) % 2147483647 = st at s0 s1 ⊢
        have hb5 := e5 b _ hb3
        refine q_setL (j := 3) (v := .int ((st ^ (3 : Int).toNat + 60013 * st + 8191) % 2147483647)) hb5 (ev_op (x := .int (st ^ (3 : Int).toNat + 60013 * st + 8191)) (y := .int 2147483647) (ev_op (x := .int (st ^ (3 : Int).toNat + 60013 * st)) (y := .int 8191) (ev_op (x := .int (st ^ (3 : Int).toNat)) (y := .int (60013 * st)) (ev_op (x := .int st) (y := .int 3) (ev_var rfl) ev_c (rv_I ⟨by decide, by decide, by omega⟩)) (ev_op (x := .int 60013) (y := .int st) ev_c (ev_var rfl) (rv_I (.inl ⟨by decide, by decide⟩))) rv_I0) ev_c rv_I0) ev_c (rv_I (by decide))) (ev_var rfl) ev_c (by simp) fun H6 e6 => ?_
        generalize (st ^ (3 : Int).toNat + 60013 * st + 8191) % 2147483647 = sd
        have hb6 : (upd H6 b (.lst ([V.ref l, .int (i : Nat), .int big, .int seed, .int (cnt + 1)].set 3 (.int sd)))) b = some (.lst [V.ref l, .int (i : Nat), .int big, .int sd, .int (cnt + 1)]) := upd_same
        have bt6 : But b H1 (upd H6 b (.lst ([V.ref l, .int (i : Nat), .int big, .int seed, .int (cnt + 1)].set 3 (.int sd)))) := ((bt3.ex e5).ex e6).mut
        generalize upd H6 b (.lst ([V.ref l, .int (i : Nat), .int big, .int seed, .int (cnt + 1)].set 3 (.int sd))) = H7 at hb6 bt6 ⊢
        refine s_ret (v := .int ((sd / 61 + sd % 6607 * 41) % m)) (ev_op (x := .int (sd / 61 + sd % 6607 * 41)) (y := .int m) (ev_op (x := .int (sd / 61)) (y := .int (sd % 6607 * 41)) (ev_op (x := .int sd) (y := .int 61) (ev_ixL (i := 3) (v := .int sd) (ev_var rfl) ev_c (sq_of hb6) rfl) ev_c (rv_I ⟨by decide, by decide⟩)) (ev_op (x := .int (sd % 6607)) (y := .int 41) (ev_op (x := .int sd) (y := .int 6607) (ev_int (ev_ixL (i := 3) (v := .int sd) (ev_var rfl) ev_c (sq_of hb6) rfl)) ev_c (rv_I (by decide))) ev_c (rv_I (.inr ⟨by decide, by decide⟩))) rv_I0) (ev_var rfl) (rv_I m0)) fun H8 e8 => ?_
        exact k _ H8 (Int.emod_nonneg _ (by omega)) (Int.emod_lt_of_pos _ m0) ((but1.trans bt6).ex e8) ⟨ns, i, big, sd, cnt + 1, e8 b _ hb6, (bt6.ex e8) _ _ hlb hl, hlb⟩
end
end Cp

namespace Cp
open PySem PySem.Spec PyProof.Rows L2 Evl GN GZ
def spPick (K : PySem.W.Frag) : Sp := fun vs H Q _ => ∃ b l xs s, vs = [.ref b, .ref l] ∧ SqL K H l xs ∧ l ≠ b ∧ 1 ≤ xs.length ∧ xs.length ≤ 1000 ∧ BagOk K H b s ∧ ∀ (j : Nat) x H2, xs[j]? = some x → But b H H2 → BagOk K H2 b s → Q x H2
theorem sc_pick : FnScope ["_law_bag_here", "_law_some"] ["_law_bag_here", "_law_some"] (defScope (top 99)) := ⟨rfl, rfl, rfl, by decide +kernel, rfl, by decide +kernel, by decide +kernel⟩
def spBag (K : PySem.W.Frag) : Sp := fun vs H Q _ => ∃ (a : Addr) (ns : List Int), vs = [.ref a] ∧ SqL K H a (ns.map V.int) ∧ ns.length ≤ 63 ∧ ∀ b l H2, H b = none → Ex H H2 → BagOk K H2 b l → Q (.ref b) H2
theorem sc_bag : FnScope ["_law_script", "_law_seed", "_law_entry"] ["_law_script"] (defScope (top 97)) := ⟨rfl, rfl, rfl, by decide +kernel, rfl, by decide +kernel, by decide +kernel⟩
section
variable {K : PySem.W.Frag} {σ : L2.St} {H : Hp}
theorem el_slL {te : TE} {tl th : TO} {lo hi : Option Int} {a : Addr} {xs : List V} (h : Ev te σ H (.ref a)) (h1 : EvO tl σ H lo) (h2 : EvO th σ H hi) (hx : SqL K H a xs) : EvL (tSl (rSlL K) te tl th) σ H (cutV xs lo hi) := fun H1 e Q q =>
  h H1 e _ fun H2 e2 => h1 H2 (e.trans e2) _ fun H3 e3 => h2 H3 ((e.trans e2).trans e3) _ fun H4 e4 =>
    ⟨a, xs, rfl, ex_l (((e.trans e2).trans e3).trans e4) hx, fun l hl => q l _ (fresh_back ((e2.trans e3).trans e4) hl) (((e2.trans e3).trans e4).trans (Ex.new hl)) upd_same⟩
theorem cut63 (ns : List Int) : ∃ ms : List Int, cutV (ns.map V.int) none (some 63) = ms.map V.int ∧ ms.length ≤ 63 := by
  have h := HT.sIx_nat (ns.map V.int).length (ns.map V.int).length 63
  rw [show ((63 : Nat) : Int) = 63 from rfl] at h
  refine ⟨ns.take (min 63 ns.length), ?_, by rw [List.length_take]; omega⟩
  unfold cutV
  rw [h, HT.sIx_none, List.drop_zero, Nat.sub_zero, List.map_take, List.length_map]
end
section
variable {P : Program} {w : World} {K : PySem.W.Frag} {mg : Str → Option Value} {base : Heap} {f : Addr} {fd : FuncData}
theorem ok_pick (F : FnP K "_law_pick" (top 99) [] f fd) (TK : Cal P w K mg base "_law_take" 1 ["_law_bag_here", "_law_many"] (spTake K)) (gL : mg "len" = none) : FnOk P w K mg base CX0 2 f fd ["_law_bag_here", "_law_some"] (spPick K) := by
  refine F.ok sc_pick (fun vs H Q E h => ?_) (fun cdv A outer s H vs Q E hr h => ?_)
  · obtain ⟨b, l, xs, s', rfl, _⟩ := h
    rfl
  · obtain ⟨b, l, xs, s', rfl, hl, hlb, h1, h2, hB, k⟩ := h
    refine ⟨_, pss_one (by
      exact ps_ret (pe_ix ix_list (pv 1) (pe_call TK.G hr (by rfl) TK.g TK.k TK.b .nil pass0 (pa_cons (pv 0) (pa_cons (pe_callB call_len_seq (by rfl) gL PySem.boot_len (pa_cons (pv 1) pa_nil)) pa_nil))) (fun _ _ => rfl))), ?_⟩
    refine ⟨.ref l, rfl, .ref b, rfl, .ref l, rfl, l, xs, rfl, .inl hl, b, s', (xs.length : Int), rfl, by omega, by omega, hB, fun r H2 r0 r1 bt hB2 => ?_⟩
    have hj : r.toNat < xs.length := by omega
    have hrn : ((r.toNat : Nat) : Int) = r := by omega
    generalize r.toNat = j at hj hrn
    subst hrn
    exact ⟨l, xs, (j : Int), xs[j], rfl, rfl, sqL_at hlb bt hl, atI_nat (List.getElem?_eq_getElem hj), k j _ H2 (List.getElem?_eq_getElem hj) bt hB2⟩
theorem ok_bag (F : FnP K "_law_bag" (top 97) [] f fd) (gI : mg "int" = none) (gL : mg "list" = none) : FnOk P w K mg base CX0 1 f fd ["_law_script"] (spBag K) := by
  refine F.ok sc_bag (fun vs H Q E h => ?_) (fun cdv A outer s H vs Q E hr h => ?_)
  · obtain ⟨a, ns, rfl, _⟩ := h
    rfl
  · obtain ⟨a, ns, rfl, ha, hn, k⟩ := h
    refine ⟨_, pss_cons (by
        exact ps_asg pe_int (pg_name (i := 1) sc_bag.nd rfl (Or.inl rfl))) <| pss_cons (by
        refine ps_for (passes_of rfl) rfl (pi_list (by exact pe_slice sl_list (pv 0) po_none (po_some pe_int))) (pg_name (i := 2) sc_bag.nd rfl (Or.inl rfl)) (pss_one (by
          exact ps_asg (pe_op op_mod (pe_op op_add (pe_op op_add (pe_op op_mul (pv 1) pe_int) (pe_op op_mod (pe_callTy call_int1 (by rfl) gI boot_int (pa_cons (pv 2) pa_nil)) pe_int)) pe_int) pe_int) (pg_name (i := 1) sc_bag.nd rfl (Or.inl rfl))))) <| pss_one (by
        exact ps_ret (pe_lst (pa_cons (pe_callTy call_list_of (by rfl) gL boot_list (pa_cons (pe_slice sl_list (pv 0) po_none (po_some pe_int)) pa_nil)) (pa_cons pe_int (pa_cons pe_int (pa_cons (pv 1) (pa_cons pe_int pa_nil))))))), ?_⟩
    obtain ⟨ms, hms, hml⟩ := cut63 ns
    refine q_asg (v := .int 5759) ev_c fun H1 e1 => ?_
    refine q_forNL (xs := ms.map V.int) (by
      have z := el_slL (K := K) (σ := [some (.ref a), some (.int 5759), none]) (H := H1) (te := tVar 0) (ev_var rfl) eo_none (eo_some (ev_c (v := .int 63))) (ex_l e1 ha)
      rw [hms] at z
      exact z) (fun p i σ' H' => ∃ sd p2, σ' = [some (.ref a), some (.int sd), p2] ∧ Ex H1 H' ∧ H' p = some (.lst (ms.map V.int))) (fun p H2 hp e2 h2 => ⟨5759, none, rfl, e2, h2⟩) (fun p i σ' H' _ z => ?_) ?_ ?_
    · obtain ⟨_, _, _, _, z⟩ := z
      exact sq_of z
    · rintro p i x σ' H' hx ⟨sd, p2, rfl, e2, h2⟩
      rw [List.getElem?_map] at hx
      obtain ⟨n, _, rfl⟩ := Option.map_eq_some_iff.mp hx
      refine s_asg (v := .int ((sd * 48299 + n % 2147483629 + 11) % 2147483647)) (ev_op (x := .int (sd * 48299 + n % 2147483629 + 11)) (y := .int 2147483647) (ev_op (x := .int (sd * 48299 + n % 2147483629)) (y := .int 11) (ev_op (x := .int (sd * 48299)) (y := .int (n % 2147483629)) (ev_op (x := .int sd) (y := .int 48299) (ev_var rfl) ev_c (rv_I (.inr ⟨by decide, by decide⟩))) (ev_op (x := .int n) (y := .int 2147483629) (ev_int (ev_var rfl)) ev_c (rv_I (by decide))) rv_I0) ev_c rv_I0) ev_c (rv_I (by decide))) fun H3 e3 => ⟨_, _, rfl, e2.trans e3, e3 p _ h2⟩
    · rintro p σ' H' ⟨sd, p2, rfl, e2, h2⟩
      have sl : EvL (tSl (rSlL K) (tVar 0) (fun σ H Q => Q none H) (tPart (tC (.int 63)))) [some (V.ref a), some (.int sd), p2] H' (ms.map V.int) := by
        have z := el_slL (K := K) (σ := [some (.ref a), some (.int sd), p2]) (H := H') (te := tVar 0) (ev_var rfl) eo_none (eo_some (ev_c (v := .int 63))) (ex_l (e1.trans e2) ha)
        rw [hms] at z
        exact z
      refine sl H' (Ex.refl _) _ fun q H2 hq e3 hq2 => ⟨q, _, rfl, .inl (sq_of hq2), fun l hl => ?_⟩
      refine ⟨.int sd, rfl, sz_of (n := 5) (by decide), fun b hb => ?_⟩
      have e04 := (((e1.trans e2).trans e3).trans (Ex.new (o := .lst (ms.map V.int)) hl))
      have hlb : l ≠ b := fun z => by rw [← z, upd_same] at hb; cases hb
      exact k b l _ (fresh_back e04 hb) (e04.trans (Ex.new hb)) ⟨ms, 0, 0, sd, 0, upd_same, by rw [upd_ne hlb, upd_same], hlb⟩
end
end Cp

/-! A caught error of an own class: handed to a def within the suite, asked for its class, its fields read; except with a tuple of classes. -/
namespace GH
open PySem PySem.Spec PyProof.Rows L2
/-- what the class says -/
structure XcC (K : PySem.W.Frag) (C : Addr) : Prop where
  hc : (PySem.W.clsIn K C).isSome = true
  ga : PySem.W.findIn K (.ref C) "__getattribute__" = some (some (.builtin "BaseException.__getattribute__"))
  gg : PySem.W.findIn K (.ref C) "__getattr__" = some none
  sub : PySem.W.subIn K (.ref C) (.type "BaseException") = some true
  hd : PySem.W.hasDictIn K C = true
  ca : PySem.W.findIn K (.ref C) "__class__" = some (some (.builtin "object.__class__"))
  cg : PySem.W.specialIn K (.builtin "object.__class__") "__get__" = some (some (.builtin "getset_descriptor.__get__"))
  ct : PySem.W.takesIn K (.builtin "object.__class__") = some true
  cm : PySem.W.mroIn K C (.type "object") = some true
def xcB (K : PySem.W.Frag) (C : Addr) : Bool := (PySem.W.clsIn K C).isSome && (decide (PySem.W.findIn K (.ref C) "__getattribute__" = some (some (.builtin "BaseException.__getattribute__"))) && (decide (PySem.W.findIn K (.ref C) "__getattr__" = some none) && (decide (PySem.W.subIn K (.ref C) (.type "BaseException") = some true) && (PySem.W.hasDictIn K C &&
  (decide (PySem.W.findIn K (.ref C) "__class__" = some (some (.builtin "object.__class__"))) && (decide (PySem.W.specialIn K (.builtin "object.__class__") "__get__" = some (some (.builtin "getset_descriptor.__get__"))) && (decide (PySem.W.takesIn K (.builtin "object.__class__") = some true) && decide (PySem.W.mroIn K C (.type "object") = some true))))))))
theorem xcB_ok {K : PySem.W.Frag} {C : Addr} (h : xcB K C = true) : XcC K C := by
  unfold xcB at h
  simp only [Bool.and_eq_true, decide_eq_true_eq] at h
  obtain ⟨h1, h2, h3, h4, h5, h6, h7, h8, h9⟩ := h
  exact ⟨h1, h2, h3, h4, h5, h6, h7, h8, h9⟩
/-- a stands in X for an error of the class D, its dict at dd -/
structure Err (X : Cx) (a : Addr) (oe : Obj) (D dd : Addr) : Prop where
  pin : (a, oe) ∈ X.pn
  z : Zc (.ref D) (some dd) oe
  fv : ∃ vs, oe.data = .fields vs
section
variable {X : Cx} {pins : List (Addr × Obj)} {σ : L2.St} {H : Hp} {s : Shared} {a D dd : Addr} {oe : Obj}
theorem err_inst (er : Err X a oe D dd) (I : Inv X pins σ H s) {fs : List (Str × V)} (h : H dd = some (.xd fs)) : ∃ od, PySem.W.InstAt s.heap a oe D (some od) ∧ ∀ {f : Str} {v : V}, fs.lookup f = some v → ∃ u, PySem.W.lookIn f od = some (some u) ∧ RelV v u := by
  obtain ⟨ha, _⟩ := I.pin (a, oe) (List.mem_append_left _ er.pin)
  have hx : ObjOk X.prog X.w H s.heap dd (.xd fs) := I.hok dd _ h
  obtain ⟨mA, hns, hr⟩ := hx
  obtain ⟨od, ho, hl⟩ := lookIn_ns hns
  obtain ⟨vs, hv⟩ := er.fv
  refine ⟨od, ⟨ha, er.z.1, by unfold PySem.W.notCls; rw [hv] <;> rfl, by rw [er.z.2]; exact ho⟩, fun {f v} l => ?_⟩
  obtain ⟨u, hu, ru⟩ := RelO.some_of (v := v) (o := mA f) (by rw [← l]; exact hr f)
  exact ⟨u, by rw [hl, hu], ru⟩
/-- isinstance(e, c) -/
def rIsP (K : PySem.W.Frag) (D a dd : Addr) : List V → Hp → VK → Prop := fun xs H Q => ∃ (c : Addr) (b : Bool) (fs : List (Str × V)), xs = [.ref a, .ref c] ∧ PySem.W.kitOne K (.ref D) (.ref c) = some b ∧ H dd = some (.xd fs) ∧ Q (.bl b) H
theorem call_isP (er : Err X a oe D dd) (C : XcC X.K D) : CallR X (.builtin "isinstance") (rIsP X.K D a dd) := by
  intro pins s σ H xs us Q I r h
  obtain ⟨c, b, fs, rfl, e, hd, q⟩ := h
  cases r with
  | cons rx rr =>
    cases rr with
    | cons rt rr =>
      cases rr
      cases rx
      cases rt
      obtain ⟨od, J, _⟩ := err_inst er I hd
      exact PySem.W.kia_one (PySem.W.kitx_exc (gt := none) C.hc C.ga C.gg C.sub C.ca C.cg C.ct C.cm) I.kIn J e (fun z => nomatch z) fun tk => ⟨.bl b, H, I.kept (t' := tk) fun _ _ z => z, rfl, q⟩
/-- e.f -/
def tXp (a dd : Addr) (f : Str) (te : TE) : TE := fun σ H Q => te σ H fun x H1 => x = .ref a ∧ ∃ (fs : List (Str × V)) (v : V), H1 dd = some (.xd fs) ∧ fs.lookup f = some v ∧ Q v H1
theorem pe_xp {e : Expr} {te : TE} {pos : Pos} {n : Str} (er : Err X a oe D dd) (C : XcC X.K D) (hno : PySem.W.findIn X.K (.ref D) n = some none) (he : PE X e te) (hb : attributeBase e n X.env (eval e X.env) = eval e X.env := by rfl) : PE X (.Attribute e n pos) (tXp a dd n te) := by
  refine ⟨fun pins s σ H Q I h => attr_of hb (thn (he.run pins s σ H _ I h) fun u s1 hh => ?_)⟩
  obtain ⟨x, H1, I1, rx, ex, fs, v, ea, l, q⟩ := hh
  subst ex
  obtain rfl : u = Value.ref a := rx
  obtain ⟨od, J, look⟩ := err_inst er I1 ea
  obtain ⟨u, hu, ru⟩ := look l
  exact HandSPX.exc_get I1.kIn J C.ga C.gg C.sub (PySem.W.findObj_own C.hd hno rfl hu) (handed_of ru) ⟨v, H1, I1.tok _, ru, q⟩
end
/-! ### a def called within the suite -/
structure FnE (P : Program) (w : World) (K : PySem.W.Frag) (mg : Str → Option Value) (base : Heap) (k : Nat) (f : Addr) (fd : FuncData) (ps : List Str) (sp : Addr → Addr → Addr → Hp → VK → Prop) : Prop where
  run : ∀ (A : Around) (outer : List Env) (s : Shared) (H : Hp) (args : Args) (a D dd : Addr) (oe : Obj) (Q : VK), L2H.RoomH k A → L2H.PinOk outer H s (a, oe) → Zc (.ref D) (some dd) oe → (∃ vs, oe.data = .fields vs) → Env0 P w K mg base A outer s H → BindsTo s fd args (ps.zip [.ref a]) → sp a D dd H Q →
    codeAny (model P w) A (.call (.ref f) args) (CR C8.CX0 outer P w H s Q C8.E0) s
theorem fn_ofE {P : Program} {w : World} {K : PySem.W.Frag} {mg : Str → Option Value} {base : Heap} {k : Nat} {f : Addr} {name qual y : Str} {params : Arguments} {body : List Stmt} {scope : Scope} {dV kV doc pm cdv ct oc : Value} {an od : Option Addr}
    {osl : Array (Option Value)} {N : List Str} {sp : Addr → Addr → Addr → Hp → VK → Prop} (lk : K.lookup f = some ⟨oc, od, .func (PySem.W.fnOf name qual params body scope dV kV doc pm an cdv ct), osl⟩) (hcd : PySem.W.codeIn K cdv qual = true) (S : FnScope N [y] scope)
    (hbody : ∀ (A : Around) (outer : List Env) (s : Shared) (H : Hp) (a D dd : Addr) (oe : Obj) (Q : VK), Zc (.ref D) (some dd) oe → (∃ vs, oe.data = .fields vs) → sp a D dd H Q →
      ∃ t, PSs (L2H.cxH C8.CX0 P w K mg base N qual scope f cdv A outer s H C8.E0 (a, oe)) body t ∧ t { nx := fun _ H' => Q .non H', rt := Q } (L2.start N [.ref a]) H) :
    FnE P w K mg base (k + 1) f (PySem.W.fnOf name qual params body scope dV kV doc pm an cdv ct) [y] sp := by
  refine ⟨fun A outer s H args a D dd oe Q hr hpin hz hv e0 hb hsp => ?_⟩
  have r : Vals [V.ref a] [Value.ref a] := .cons rfl .nil
  have KX : K.In s.heap := e0.mod.kin.keeps fun b o e => (e0.bs b o e).1
  have lim : s.heap.NoLimit := e0.mod.nolimit.keeps fun b o e => (e0.bs b o e).1
  have hkind : ∀ z ∈ [y].zip [Value.ref a], scope.names.lookup z.1 = some .local ∨ (scope.names.lookup z.1 = some .cell ∧ ((cellsFrom (s.heap.objs.size + 1) scope.names []).lookup z.1).isSome = true) := fun ⟨n, v⟩ hy => (S.par n (List.of_mem_zip hy).1).elim .inl fun q => .inr ⟨q, PySem.W.cellsFrom_some _ _ _ (.inl q)⟩
  refine codeAny_call_function hr.depth (KX _ _ lk) rfl S.co S.gen rfl (PySem.W.codeRec_of KX hcd) (hb _ _ _ _ (wpAny_newFunctionEnv_cells S.kind hkind fun env he s1 x => ?_))
  subst he
  refine ⟨lim.keeps x.toInCall.keep, codeAny_func ?_⟩
  obtain ⟨t, ht, hq⟩ := hbody A outer s H a D dd oe Q hz hv hsp
  have I : Inv (L2H.cxH C8.CX0 P w K mg base N qual scope f cdv A outer s H C8.E0 (a, oe)) [] (L2.start N [.ref a]) H s1 := L2H.inv_startH S hpin e0 rfl r x
  refine wpAny_mono (ht.run [] s1 (L2.start N [.ref a]) H _ I hq) (fun fl s' hs => ?_) fun e s' hs => hs
  cases fl with
  | ret u =>
    obtain ⟨v, σ', H', J, rv, q⟩ := hs
    exact ⟨v, H', J.os, J.bare, J.base, J.hok, rv, q⟩
  | next =>
    obtain ⟨σ', H', J, q⟩ := hs
    exact ⟨.non, H', J.os, J.bare, J.base, J.hok, rfl, q⟩
  | brk =>
    obtain ⟨_, _, _, q⟩ := hs
    exact False.elim q
  | cont =>
    obtain ⟨_, _, _, q⟩ := hs
    exact False.elim q
section
variable {X : Cx} {k : Nat} {f : Addr} {fd : FuncData} {y x : Str} {sp : Addr → Addr → Addr → Hp → VK → Prop} {q pos : Pos} {e : Expr} {a D dd : Addr} {oe : Obj} {te : TE}
/-- f(e), e the error -/
def tCallE (a D dd : Addr) (sp : Addr → Addr → Addr → Hp → VK → Prop) (t : TA) : TE := fun σ H Q => t σ H fun vs H1 => vs = [.ref a] ∧ sp a D dd H1 Q
theorem pe_callE {t : TA} (er : Err X a oe D dd) (F : FnE X.prog X.w X.K X.mg X.base k f fd [y] sp) (hr : L2H.RoomH k X.A) (hg : Gl X x) (hm : X.mg x = some (.ref f)) (hk : PySem.W.keepIn X.K (.ref f) = true) (hb : Binds X.K fd [y] []) (ha : PA X [e] t)
    (hdb : (x == ("__debug__" : Str)) = false := by decide) (he : starEach [e] X.env = (false, eval e X.env) :: starEach [] X.env := by rfl) (hpl : (backTo pos (starEach [] X.env)).any (·.1) = false := by rfl) : PE X (.Call (.Name x q) [e] [] pos) (tCallE a D dd sp t) := by
  refine ⟨fun pins s σ H Q I h => wpAny_Call_Name_kw (ld_glob I hg hm ?_ hdb)⟩
  refine PySem.W.callWith_K (h₀ := X.base) I.ok.mod.kin hk (thn (ha.run pos pins s σ H _ I h) fun us s1 ⟨vs, H1, I1, r, e1, q1⟩ => ⟨I1.kIn, ?_⟩) he hpl
  subst e1
  obtain ⟨u, rfl, rx⟩ := vals1 r
  obtain rfl : u = Value.ref a := rx
  have bd := hb s1 [.ref a] I1.kIn rfl
  rw [List.append_nil] at bd
  obtain ⟨p1, p2, p3, p4, p5⟩ := I1.pin (a, oe) (List.mem_append_left _ er.pin)
  have hpin : L2H.PinOk X.stack H1 s1 (a, oe) := ⟨p1, p2, fun hm => (List.mem_cons.mp (I1.stkSub a hm)).elim p3 p4, p5⟩
  refine wpAny_call (codeAny_mono (F.run X.A X.stack s1 H1 ⟨[.ref a], []⟩ a D dd oe Q hr hpin er.z er.fv I1.env0 bd q1) fun r s' hq => ?_)
  cases r with
  | error e => exact (show False from hq).elim
  | ok fl =>
    cases fl with
    | ret u => exact I1.after hq
    | next => exact False.elim hq
    | brk => exact False.elim hq
    | cont => exact False.elim hq
end
/-! ### except (A, B, ..) as n -/
inductive NamesT (X : Cx) : List Expr → List Value → Prop
  | nil : NamesT X [] []
  | cons {x : Str} {c : Value} {p : Pos} {es : List Expr} {cs : List Value} (hg : Gl X x) (hm : X.mg x = some c) (hd : (x == ("__debug__" : Str)) = false) (r : NamesT X es cs) : NamesT X (.Name x p :: es) (c :: cs)
theorem names_run {X : Cx} {pins : List (Addr × Obj)} {σ : L2.St} {H : Hp} {s : Shared} {E : Value → Shared → Prop} {pos : Pos} (I : Inv X pins σ H s) : ∀ {es : List Expr} {cs : List Value} {Q : List Value → Shared → Prop}, NamesT X es cs → Q cs s → wpAny (model X.prog X.w) X.A (spliced (backTo pos (starEach es X.env))) Q E s
  | _, _, _, .nil, q => Calls.spliced_nil q
  | _, _, _, .cons hg hm hd r, q => Calls.spliced_cons (ld_glob I hg hm (names_run I r q) hd)
theorem flying_keeps {base h h' : Heap} {l : List Env} {e : Addr} {Z : Obj → Prop} (k : ∀ b o, h.get? b = some o → h'.get? b = some o) (f : HandSPX.FlyingZ base l e Z h) : HandSPX.FlyingZ base l e Z h' := by
  obtain ⟨f1, f2, f3, oe, vs, T, oT, ts, g1, g2, g3, g4, g5, g6, g7, g8, g9⟩ := f
  exact ⟨fun b o hb => k b o (f1 b o hb), f2, f3.of_keeps fun b o hb _ => ⟨o, k b o hb, rfl⟩, oe, vs, T, oT, ts, k _ _ g1, g2, g3, g4, g5, g6, k _ _ g7, g8, g9⟩
theorem exm_tup11 {M : Model} {K : PySem.W.Frag} {c1 c2 c3 c4 c5 c6 c7 c8 c9 c10 c11 cls : Value} {tp e : Addr} {h : Heap} {b3 b4 b5 b6 b7 b8 b9 b10 b11 : Bool} (X : K.In h) (LT : PySem.W.Looks M h (typeOf (.ref e)) cls) (hp : h.get? tp = some { cls := .type "tuple", data := .seq [c1, c2, c3, c4, c5, c6, c7, c8, c9, c10, c11].toArray })
    (x1 : PySem.W.exmOne K cls c1 = some false) (x2 : PySem.W.exmOne K cls c2 = some true) (x3 : PySem.W.exmOne K cls c3 = some b3) (x4 : PySem.W.exmOne K cls c4 = some b4) (x5 : PySem.W.exmOne K cls c5 = some b5) (x6 : PySem.W.exmOne K cls c6 = some b6) (x7 : PySem.W.exmOne K cls c7 = some b7) (x8 : PySem.W.exmOne K cls c8 = some b8) (x9 : PySem.W.exmOne K cls c9 = some b9) (x10 : PySem.W.exmOne K cls c10 = some b10) (x11 : PySem.W.exmOne K cls c11 = some b11) :
    PySem.W.Looks M h (excMatches (.ref e) (.ref tp)) true := by
  intro A Q E s k₀ q
  obtain ⟨hh, g, d, tk, os⟩ := s
  have k : ∀ b o, h.get? b = some o → hh.get? b = some o := k₀
  have LT0 : PySem.W.Looks M h (isInstance (.ref tp) (.type "tuple")) true := ((PySem.W.Looks.ld hp).andThen .now).andThen (PySem.W.Looks.of_pure isSubtype_tuple_tuple)
  obtain ⟨e1, S1⟩ := PySem.W.exm_cls (M := M) X x1
  obtain ⟨e2, S2⟩ := PySem.W.exm_cls (M := M) X x2
  have e3 := (PySem.W.exm_cls (M := M) X x3).1.keeps k
  have e4 := (PySem.W.exm_cls (M := M) X x4).1.keeps k
  have e5 := (PySem.W.exm_cls (M := M) X x5).1.keeps k
  have e6 := (PySem.W.exm_cls (M := M) X x6).1.keeps k
  have e7 := (PySem.W.exm_cls (M := M) X x7).1.keeps k
  have e8 := (PySem.W.exm_cls (M := M) X x8).1.keeps k
  have e9 := (PySem.W.exm_cls (M := M) X x9).1.keeps k
  have e10 := (PySem.W.exm_cls (M := M) X x10).1.keeps k
  have e11 := (PySem.W.exm_cls (M := M) X x11).1.keeps k
  have e1 := e1.keeps k
  have S1 := S1.keeps k
  have e2 := e2.keeps k
  have S2 := S2.keeps k
  have LT := LT.keeps k
  have LT0 := LT0.keeps k
  have hp' := k _ _ hp
  unfold excMatches
  refine wpAny_bind (LT0.at ?_)
  dsimp only
  rw [if_pos rfl]
  first
    | refine wpAny_bind (wpAny_seqItems hp' rfl ?_)
    | refine wpAny_bind (wpAny_bind (wpAny_seqItems hp' rfl (wpAny_pure ?_)))
  dsimp only [Option.getD_some, Option.getD]
  repeat (first | simp only [List.forIn_cons, List.forIn_nil, Bool.not_true, Bool.false_eq_true, if_false, if_true] | lk)
  exact q
end GH

namespace GH
open PySem PySem.Spec PyProof.Rows L2
/-- what is asked of the eleven classes -/
def Ms (K : PySem.W.Frag) (cls : Value) : List Value → Prop
  | [c1, c2, c3, c4, c5, c6, c7, c8, c9, c10, c11] => PySem.W.exmOne K cls c1 = some false ∧ PySem.W.exmOne K cls c2 = some true ∧ (∃ b, PySem.W.exmOne K cls c3 = some b) ∧ (∃ b, PySem.W.exmOne K cls c4 = some b) ∧ (∃ b, PySem.W.exmOne K cls c5 = some b) ∧ (∃ b, PySem.W.exmOne K cls c6 = some b) ∧
    (∃ b, PySem.W.exmOne K cls c7 = some b) ∧ (∃ b, PySem.W.exmOne K cls c8 = some b) ∧ (∃ b, PySem.W.exmOne K cls c9 = some b) ∧ (∃ b, PySem.W.exmOne K cls c10 = some b) ∧ ∃ b, PySem.W.exmOne K cls c11 = some b
  | _ => False
theorem ms_match {M : Model} {K : PySem.W.Frag} {cls : Value} {tp e : Addr} {h : Heap} : ∀ {cs : List Value}, Ms K cls cs → K.In h → PySem.W.Looks M h (typeOf (.ref e)) cls → h.get? tp = some { cls := .type "tuple", data := .seq cs.toArray } → PySem.W.Looks M h (excMatches (.ref e) (.ref tp)) true
  | [c1, c2, c3, c4, c5, c6, c7, c8, c9, c10, c11], ⟨x1, x2, ⟨_, x3⟩, ⟨_, x4⟩, ⟨_, x5⟩, ⟨_, x6⟩, ⟨_, x7⟩, ⟨_, x8⟩, ⟨_, x9⟩, ⟨_, x10⟩, ⟨_, x11⟩⟩, X, LT, hp => exm_tup11 X LT hp x1 x2 x3 x4 x5 x6 x7 x8 x9 x10 x11
theorem ms_len {K : PySem.W.Frag} {cls : Value} : ∀ {cs : List Value}, Ms K cls cs → cs.length = 11
  | [_, _, _, _, _, _, _, _, _, _, _], _ => rfl
def wTup (K : PySem.W.Frag) (cs : List Value) (i m : Nat) (ts : Addr → Value → Option Addr → TS) (D : Ends) : WX := fun cls d σ H => Ms K cls cs ∧ ∀ a, H a = none → σ.length = m → ts a cls d { nx := fun σ' H' => D.nx (σ'.set i none) H', rt := D.rt, bk := fun σ' H' => D.bk (σ'.set i none) H', ct := fun σ' H' => D.ct (σ'.set i none) H' } (σ.set i (some (.ref a))) H
section
variable {X : Cx} {n : Str} {cs : List Value} {i kk : Nat} {body suite : List Stmt} {b₀ : Stmt} {elts : List Expr} {rest : List ExceptHandler} {np pos pos' : Pos} {tb : WX → TS} {ts : Addr → Value → Option Addr → TS}
theorem ps_try_tup (hs : X.stack = X.env :: X.outer) (hf : X.env.frame = some X.env.locals) (hN : X.N.Nodup) (hi : X.N[i]? = some n) (hln : X.env.kindOf n = some .local) (nt : ∀ (a : Addr) (pn : List (Addr × Obj)), NamesT (X.suite a pn) elts cs)
    (hb : ∀ (W : WX) (pn : List (Addr × Obj)) (xe : Value → Shared → Prop), Takes (X.tr pn xe) W → PassesOwn (model X.prog X.w) X.A X.env xe → PSs (X.tr pn xe) body (tb W))
    (hsu : ∀ (a : Addr) (oe : Obj) (cls : Value) (d : Option Addr) (pn : List (Addr × Obj)), Zc cls d oe → (∃ vs, oe.data = .fields vs) → PSs (X.suite a ((a, oe) :: pn)) (b₀ :: suite) (ts a cls d)) :
    PS X (.Try body (.ExceptHandler (some (.Tuple elts kk np)) (some n) (b₀ :: suite) pos' :: rest) [] [] pos) (fun D σ H => tb (wTup X.K cs i X.N.length ts D) D σ H) := by
  refine ⟨fun pins s σ H D I h => ?_⟩
  have ok := I.ok
  have hfr : X.A.frames = some (X.env :: X.outer) := by rw [ok.frames, hs]
  have hloc : Loc X.env.scope n := .inl hln
  refine wpAny_Try_except (wpAny_mono ((hb (wTup X.K cs i X.N.length ts D) (X.pn ++ pins) (fun e s₁ => wpAny (model X.prog X.w) X.A (noteFrame e X.env) (fun _ s₂ => wpAny (model X.prog X.w) X.A (setFlight e none) (fun _ s₃ =>
    wpAny (model X.prog X.w) X.A (handleBy e X.env (.ExceptHandler (some (.Tuple elts kk np)) (some n) (b₀ :: suite) pos' :: rest)) (SP X pins D) X.xe s₃) X.xe s₂) X.xe s₁) (fun u s' xx => ?_) PassesOwn.looking).run [] s σ H D (I.toTry _) h) (fun f s1 hsp => ?_) (fun e s1 he => he))
  · obtain ⟨a, B, sI, pins', σ', H', cls, d, rfl, J', nb, up, sky, na, os, ag, hms, hyes⟩ := xx
    have J : Inv X pins σ' H' sI := J'.ofTry ok
    have sky' : Sky B (X.env :: X.outer) a (Zc cls d) X.env.locals s'.heap := by rw [← hs]; exact sky
    show wpAny (model X.prog X.w) X.A (noteFrame (.ref a) X.env) _ _ _
    refine Sky.land Zc.steady hfr hf sky' fun h3 fl3 up3 => ?_
    have J3 : Inv X pins σ' H' { s' with heap := h3 } := J.landed nb fl3.1 (up.trans up3) os ag
    obtain ⟨oe3, vs3, he3, hz3, hd3⟩ := fl3.there
    have notFr : ∀ {h : Heap} {o : Obj} {vs : Array Value}, h.FunFrames B (X.env :: X.outer) → h.get? a = some o → o.data = .fields vs → a ∉ frs (X.env :: X.outer) := fun {h o vs} ff e dd hm => by
      obtain ⟨_, o', e', hnf⟩ := ff.mem hm
      rw [e] at e'
      cases e'
      exact hnf _ dd
    have nfr := notFr fl3.2.2.1 he3 hd3
    have nL : a ≠ X.env.locals := fun z => nfr (List.mem_filterMap.mpr ⟨X.env, List.mem_cons_self, by rw [hf, z]⟩)
    have nF : a ∉ X.fs := fun hm => by
      obtain ⟨e, he, q⟩ := List.mem_filterMap.mp hm
      exact nfr (List.mem_filterMap.mpr ⟨e, List.mem_cons_of_mem _ he, q⟩)
    have S3 := J3.suite he3 hd3 na nL nF
    refine wpAny_handleBy_cons (codeAny_handlers_test ?_) (by intro q; cases q)
    have kp : ∀ b o, h3.get? b = some o → (h3.push { cls := .type "tuple", data := .seq cs.toArray }).get? b = some o := fun b o e => Heap.get?_push_of_some _ e
    have LT : PySem.W.Looks (model X.prog X.w) (h3.push { cls := .type "tuple", data := .seq cs.toArray }) (typeOf (.ref a)) cls := fun A Q E s k q => wpAny_typeOf_ref (k _ _ (kp _ _ he3)) (by rw [hz3.1]; exact q)
    have LM := ms_match (M := model X.prog X.w) hms (J3.kIn.keeps kp) LT (Heap.get?_push_size h3 rfl)
    refine wpAny_Tuple_spliced (names_run (X := X.suite a ((a, oe3) :: (X.pn ++ pins))) S3 (nt a _) ⟨by rw [ms_len hms]; decide, ?_⟩)
    refine LM.here ?_
    refine codeAny_handlers_suite_as ?_
    refine HandSPX.lands_againZ (flying_keeps kp fl3) fun h4 fl4 up4 => ?_
    have upk : h3.UpToSlots (h3.push { cls := .type "tuple", data := .seq cs.toArray }) := fun b u e _ => ⟨u.slots, kp _ _ e⟩
    have J4 : Inv X pins σ' H' { s' with heap := h4 } := J.landed nb fl4.1 (((up.trans up3).trans upk).trans up4) os ag
    obtain ⟨oe4, vs4, he4, hz4, hd4⟩ := fl4.there
    have S4 := J4.suite he4 hd4 na nL nF
    refine store_ok (X := X.suite a ((a, oe4) :: (X.pn ++ pins))) (v := .ref a) S4 hN hi hloc rfl (fun s5 S5 => ?_) (.inr hln)
    refine wpAny_mono ((hsu a oe4 cls d (X.pn ++ pins) hz4 ⟨_, hd4⟩).run [] s5 _ H' _ S5 (hyes a na J.len)) (fun f s6 hsp => ?_) (fun _ _ z => False.elim z)
    have end_ : ∀ {σ6 : L2.St} {H6 : Hp} {Q : Shared → Prop}, Inv (X.suite a ((a, oe4) :: (X.pn ++ pins))) [] σ6 H6 s6 → (∀ s7, Inv X pins (σ6.set i none) H6 s7 → Q s7) → wpAny (model X.prog X.w) X.A (do bindName X.env n .none; unbindBehindTheSuite X.env n pos') (fun _ s7 => Q s7) X.xe s6 := fun {σ6 H6 Q} S6 hq => gone_ok (S6.unsuite ok) hN hi hln hq
    cases f with
    | next =>
      obtain ⟨σ6, H6, S6, q6⟩ := hsp
      exact end_ S6 fun s7 J7 => ⟨_, _, J7, q6⟩
    | brk =>
      obtain ⟨σ6, H6, S6, q6⟩ := hsp
      exact end_ S6 fun s7 J7 => ⟨_, _, J7, q6⟩
    | cont =>
      obtain ⟨σ6, H6, S6, q6⟩ := hsp
      exact end_ S6 fun s7 J7 => ⟨_, _, J7, q6⟩
    | ret u =>
      obtain ⟨v6, σ6, H6, S6, r6, q6⟩ := hsp
      exact end_ S6 fun s7 J7 => ⟨_, _, _, J7, r6, q6⟩
  · cases f with
    | next =>
      obtain ⟨σ', H', J', q⟩ := hsp
      exact wpAny_execs_nil ⟨σ', H', J'.ofTry ok, q⟩
    | brk =>
      obtain ⟨σ', H', J', q⟩ := hsp
      exact ⟨σ', H', J'.ofTry ok, q⟩
    | cont =>
      obtain ⟨σ', H', J', q⟩ := hsp
      exact ⟨σ', H', J'.ofTry ok, q⟩
    | ret u =>
      obtain ⟨v, σ', H', J', r, q⟩ := hsp
      exact ⟨v, σ', H', J'.ofTry ok, r, q⟩
end
end GH

/-! a tuple of classes against a caught error: found at the tenth place of eleven, at none, at the third of three. -/
namespace GH
open PySem PySem.Spec PyProof.Rows L2
theorem exm_11_10 {M : Model} {K : PySem.W.Frag} {c1 c2 c3 c4 c5 c6 c7 c8 c9 c10 c11 cls : Value} {tp e : Addr} {h : Heap} (X : K.In h) (LT : PySem.W.Looks M h (typeOf (.ref e)) cls) (hp : h.get? tp = some { cls := .type "tuple", data := .seq [c1, c2, c3, c4, c5, c6, c7, c8, c9, c10, c11].toArray })
    (x1 : PySem.W.exmOne K cls c1 = some false) (x2 : PySem.W.exmOne K cls c2 = some false) (x3 : PySem.W.exmOne K cls c3 = some false) (x4 : PySem.W.exmOne K cls c4 = some false) (x5 : PySem.W.exmOne K cls c5 = some false) (x6 : PySem.W.exmOne K cls c6 = some false) (x7 : PySem.W.exmOne K cls c7 = some false) (x8 : PySem.W.exmOne K cls c8 = some false) (x9 : PySem.W.exmOne K cls c9 = some false) (x10 : PySem.W.exmOne K cls c10 = some true) (x11 : PySem.W.exmOne K cls c11 = some false) : PySem.W.Looks M h (excMatches (.ref e) (.ref tp)) true := by
  intro A Q E s k₀ q
  obtain ⟨hh, g, d, tk, os⟩ := s
  have k : ∀ b o, h.get? b = some o → hh.get? b = some o := k₀
  have T0 : PySem.W.Looks M h (isInstance (.ref tp) (.type "tuple")) true := ((PySem.W.Looks.ld hp).andThen .now).andThen (PySem.W.Looks.of_pure isSubtype_tuple_tuple)
  have e1 := (PySem.W.exm_cls (M := M) X x1).1.keeps k
  have S1 := (PySem.W.exm_cls (M := M) X x1).2.keeps k
  have e2 := (PySem.W.exm_cls (M := M) X x2).1.keeps k
  have S2 := (PySem.W.exm_cls (M := M) X x2).2.keeps k
  have e3 := (PySem.W.exm_cls (M := M) X x3).1.keeps k
  have S3 := (PySem.W.exm_cls (M := M) X x3).2.keeps k
  have e4 := (PySem.W.exm_cls (M := M) X x4).1.keeps k
  have S4 := (PySem.W.exm_cls (M := M) X x4).2.keeps k
  have e5 := (PySem.W.exm_cls (M := M) X x5).1.keeps k
  have S5 := (PySem.W.exm_cls (M := M) X x5).2.keeps k
  have e6 := (PySem.W.exm_cls (M := M) X x6).1.keeps k
  have S6 := (PySem.W.exm_cls (M := M) X x6).2.keeps k
  have e7 := (PySem.W.exm_cls (M := M) X x7).1.keeps k
  have S7 := (PySem.W.exm_cls (M := M) X x7).2.keeps k
  have e8 := (PySem.W.exm_cls (M := M) X x8).1.keeps k
  have S8 := (PySem.W.exm_cls (M := M) X x8).2.keeps k
  have e9 := (PySem.W.exm_cls (M := M) X x9).1.keeps k
  have S9 := (PySem.W.exm_cls (M := M) X x9).2.keeps k
  have e10 := (PySem.W.exm_cls (M := M) X x10).1.keeps k
  have S10 := (PySem.W.exm_cls (M := M) X x10).2.keeps k
  have e11 := (PySem.W.exm_cls (M := M) X x11).1.keeps k
  have L0 := LT.keeps k
  have T1 := T0.keeps k
  have p1 := k _ _ hp
  unfold excMatches
  refine wpAny_bind (T1.at ?_)
  dsimp only
  rw [if_pos rfl]
  first
    | refine wpAny_bind (wpAny_seqItems p1 rfl ?_)
    | refine wpAny_bind (wpAny_bind (wpAny_seqItems p1 rfl (wpAny_pure ?_)))
  dsimp only [Option.getD_some, Option.getD]
  repeat (first | simp only [List.forIn_cons, List.forIn_nil, Bool.not_true, Bool.false_eq_true, if_false, if_true] | lk)
  exact q
theorem exm_11_no {M : Model} {K : PySem.W.Frag} {c1 c2 c3 c4 c5 c6 c7 c8 c9 c10 c11 cls : Value} {tp e : Addr} {h : Heap} (X : K.In h) (LT : PySem.W.Looks M h (typeOf (.ref e)) cls) (hp : h.get? tp = some { cls := .type "tuple", data := .seq [c1, c2, c3, c4, c5, c6, c7, c8, c9, c10, c11].toArray })
    (x1 : PySem.W.exmOne K cls c1 = some false) (x2 : PySem.W.exmOne K cls c2 = some false) (x3 : PySem.W.exmOne K cls c3 = some false) (x4 : PySem.W.exmOne K cls c4 = some false) (x5 : PySem.W.exmOne K cls c5 = some false) (x6 : PySem.W.exmOne K cls c6 = some false) (x7 : PySem.W.exmOne K cls c7 = some false) (x8 : PySem.W.exmOne K cls c8 = some false) (x9 : PySem.W.exmOne K cls c9 = some false) (x10 : PySem.W.exmOne K cls c10 = some false) (x11 : PySem.W.exmOne K cls c11 = some false) : PySem.W.Looks M h (excMatches (.ref e) (.ref tp)) false := by
  intro A Q E s k₀ q
  obtain ⟨hh, g, d, tk, os⟩ := s
  have k : ∀ b o, h.get? b = some o → hh.get? b = some o := k₀
  have T0 : PySem.W.Looks M h (isInstance (.ref tp) (.type "tuple")) true := ((PySem.W.Looks.ld hp).andThen .now).andThen (PySem.W.Looks.of_pure isSubtype_tuple_tuple)
  have e1 := (PySem.W.exm_cls (M := M) X x1).1.keeps k
  have S1 := (PySem.W.exm_cls (M := M) X x1).2.keeps k
  have e2 := (PySem.W.exm_cls (M := M) X x2).1.keeps k
  have S2 := (PySem.W.exm_cls (M := M) X x2).2.keeps k
  have e3 := (PySem.W.exm_cls (M := M) X x3).1.keeps k
  have S3 := (PySem.W.exm_cls (M := M) X x3).2.keeps k
  have e4 := (PySem.W.exm_cls (M := M) X x4).1.keeps k
  have S4 := (PySem.W.exm_cls (M := M) X x4).2.keeps k
  have e5 := (PySem.W.exm_cls (M := M) X x5).1.keeps k
  have S5 := (PySem.W.exm_cls (M := M) X x5).2.keeps k
  have e6 := (PySem.W.exm_cls (M := M) X x6).1.keeps k
  have S6 := (PySem.W.exm_cls (M := M) X x6).2.keeps k
  have e7 := (PySem.W.exm_cls (M := M) X x7).1.keeps k
  have S7 := (PySem.W.exm_cls (M := M) X x7).2.keeps k
  have e8 := (PySem.W.exm_cls (M := M) X x8).1.keeps k
  have S8 := (PySem.W.exm_cls (M := M) X x8).2.keeps k
  have e9 := (PySem.W.exm_cls (M := M) X x9).1.keeps k
  have S9 := (PySem.W.exm_cls (M := M) X x9).2.keeps k
  have e10 := (PySem.W.exm_cls (M := M) X x10).1.keeps k
  have S10 := (PySem.W.exm_cls (M := M) X x10).2.keeps k
  have e11 := (PySem.W.exm_cls (M := M) X x11).1.keeps k
  have S11 := (PySem.W.exm_cls (M := M) X x11).2.keeps k
  have L0 := LT.keeps k
  have T1 := T0.keeps k
  have p1 := k _ _ hp
  unfold excMatches
  refine wpAny_bind (T1.at ?_)
  dsimp only
  rw [if_pos rfl]
  first
    | refine wpAny_bind (wpAny_seqItems p1 rfl ?_)
    | refine wpAny_bind (wpAny_bind (wpAny_seqItems p1 rfl (wpAny_pure ?_)))
  dsimp only [Option.getD_some, Option.getD]
  repeat (first | simp only [List.forIn_cons, List.forIn_nil, Bool.not_true, Bool.false_eq_true, if_false, if_true] | lk)
  exact q
theorem exm_3_3 {M : Model} {K : PySem.W.Frag} {c1 c2 c3 cls : Value} {tp e : Addr} {h : Heap} (X : K.In h) (LT : PySem.W.Looks M h (typeOf (.ref e)) cls) (hp : h.get? tp = some { cls := .type "tuple", data := .seq [c1, c2, c3].toArray })
    (x1 : PySem.W.exmOne K cls c1 = some false) (x2 : PySem.W.exmOne K cls c2 = some false) (x3 : PySem.W.exmOne K cls c3 = some true) : PySem.W.Looks M h (excMatches (.ref e) (.ref tp)) true := by
  intro A Q E s k₀ q
  obtain ⟨hh, g, d, tk, os⟩ := s
  have k : ∀ b o, h.get? b = some o → hh.get? b = some o := k₀
  have T0 : PySem.W.Looks M h (isInstance (.ref tp) (.type "tuple")) true := ((PySem.W.Looks.ld hp).andThen .now).andThen (PySem.W.Looks.of_pure isSubtype_tuple_tuple)
  have e1 := (PySem.W.exm_cls (M := M) X x1).1.keeps k
  have S1 := (PySem.W.exm_cls (M := M) X x1).2.keeps k
  have e2 := (PySem.W.exm_cls (M := M) X x2).1.keeps k
  have S2 := (PySem.W.exm_cls (M := M) X x2).2.keeps k
  have e3 := (PySem.W.exm_cls (M := M) X x3).1.keeps k
  have S3 := (PySem.W.exm_cls (M := M) X x3).2.keeps k
  have L0 := LT.keeps k
  have T1 := T0.keeps k
  have p1 := k _ _ hp
  unfold excMatches
  refine wpAny_bind (T1.at ?_)
  dsimp only
  rw [if_pos rfl]
  first
    | refine wpAny_bind (wpAny_seqItems p1 rfl ?_)
    | refine wpAny_bind (wpAny_bind (wpAny_seqItems p1 rfl (wpAny_pure ?_)))
  dsimp only [Option.getD_some, Option.getD]
  repeat (first | simp only [List.forIn_cons, List.forIn_nil, Bool.not_true, Bool.false_eq_true, if_false, if_true] | lk)
  exact q
end GH

/-! try .. except (eleven) as n: .. except (three) as n: .. -/
namespace GH
open PySem PySem.Spec PyProof.Rows L2
def AtTen (K : PySem.W.Frag) (cls : Value) : List Value → Prop
  | [c1, c2, c3, c4, c5, c6, c7, c8, c9, c10, c11] => PySem.W.exmOne K cls c1 = some false ∧ PySem.W.exmOne K cls c2 = some false ∧ PySem.W.exmOne K cls c3 = some false ∧ PySem.W.exmOne K cls c4 = some false ∧ PySem.W.exmOne K cls c5 = some false ∧ PySem.W.exmOne K cls c6 = some false ∧
    PySem.W.exmOne K cls c7 = some false ∧ PySem.W.exmOne K cls c8 = some false ∧ PySem.W.exmOne K cls c9 = some false ∧ PySem.W.exmOne K cls c10 = some true ∧ PySem.W.exmOne K cls c11 = some false
  | _ => False
def AtNone (K : PySem.W.Frag) (cls : Value) : List Value → Prop
  | [c1, c2, c3, c4, c5, c6, c7, c8, c9, c10, c11] => PySem.W.exmOne K cls c1 = some false ∧ PySem.W.exmOne K cls c2 = some false ∧ PySem.W.exmOne K cls c3 = some false ∧ PySem.W.exmOne K cls c4 = some false ∧ PySem.W.exmOne K cls c5 = some false ∧ PySem.W.exmOne K cls c6 = some false ∧
    PySem.W.exmOne K cls c7 = some false ∧ PySem.W.exmOne K cls c8 = some false ∧ PySem.W.exmOne K cls c9 = some false ∧ PySem.W.exmOne K cls c10 = some false ∧ PySem.W.exmOne K cls c11 = some false
  | _ => False
def AtThree (K : PySem.W.Frag) (cls : Value) : List Value → Prop
  | [c1, c2, c3] => PySem.W.exmOne K cls c1 = some false ∧ PySem.W.exmOne K cls c2 = some false ∧ PySem.W.exmOne K cls c3 = some true
  | _ => False
section
variable {M : Model} {K : PySem.W.Frag} {cls : Value} {tp e : Addr} {h : Heap}
theorem atTen_m : ∀ {cs : List Value}, AtTen K cls cs → K.In h → PySem.W.Looks M h (typeOf (.ref e)) cls → h.get? tp = some { cls := .type "tuple", data := .seq cs.toArray } → PySem.W.Looks M h (excMatches (.ref e) (.ref tp)) true
  | [_, _, _, _, _, _, _, _, _, _, _], ⟨x1, x2, x3, x4, x5, x6, x7, x8, x9, x10, x11⟩, X, LT, hp => exm_11_10 X LT hp x1 x2 x3 x4 x5 x6 x7 x8 x9 x10 x11
theorem atNone_m : ∀ {cs : List Value}, AtNone K cls cs → K.In h → PySem.W.Looks M h (typeOf (.ref e)) cls → h.get? tp = some { cls := .type "tuple", data := .seq cs.toArray } → PySem.W.Looks M h (excMatches (.ref e) (.ref tp)) false
  | [_, _, _, _, _, _, _, _, _, _, _], ⟨x1, x2, x3, x4, x5, x6, x7, x8, x9, x10, x11⟩, X, LT, hp => exm_11_no X LT hp x1 x2 x3 x4 x5 x6 x7 x8 x9 x10 x11
theorem atThree_m : ∀ {cs : List Value}, AtThree K cls cs → K.In h → PySem.W.Looks M h (typeOf (.ref e)) cls → h.get? tp = some { cls := .type "tuple", data := .seq cs.toArray } → PySem.W.Looks M h (excMatches (.ref e) (.ref tp)) true
  | [_, _, _], ⟨x1, x2, x3⟩, X, LT, hp => exm_3_3 X LT hp x1 x2 x3
theorem atTen_l : ∀ {cs : List Value}, AtTen K cls cs → cs.length ≤ 11
  | [_, _, _, _, _, _, _, _, _, _, _], _ => Nat.le_refl _
theorem atNone_l : ∀ {cs : List Value}, AtNone K cls cs → cs.length ≤ 11
  | [_, _, _, _, _, _, _, _, _, _, _], _ => Nat.le_refl _
theorem atThree_l : ∀ {cs : List Value}, AtThree K cls cs → cs.length ≤ 11
  | [_, _, _], _ => (show (3 : Nat) ≤ 11 by decide)
end
def wTwo (K : PySem.W.Frag) (cs1 cs2 : List Value) (i m : Nat) (ts1 ts2 : Addr → Value → Option Addr → TS) (D : Ends) : WX := fun cls d σ H =>
  (AtTen K cls cs1 ∧ ∀ a, H a = none → σ.length = m → ts1 a cls d { nx := fun σ' H' => D.nx (σ'.set i none) H', rt := D.rt, bk := fun σ' H' => D.bk (σ'.set i none) H', ct := fun σ' H' => D.ct (σ'.set i none) H' } (σ.set i (some (.ref a))) H) ∨
  (AtNone K cls cs1 ∧ AtThree K cls cs2 ∧ ∀ a, H a = none → σ.length = m → ts2 a cls d { nx := fun σ' H' => D.nx (σ'.set i none) H', rt := D.rt, bk := fun σ' H' => D.bk (σ'.set i none) H', ct := fun σ' H' => D.ct (σ'.set i none) H' } (σ.set i (some (.ref a))) H)
section
variable {X : Cx} {n : Str} {cs1 cs2 : List Value} {i kk kk2 : Nat} {body suite suite2 : List Stmt} {b₀ c₀ : Stmt} {elts elts2 : List Expr} {rest : List ExceptHandler} {np np2 pos pos' pos2 : Pos} {tb : WX → TS} {ts1 ts2 : Addr → Value → Option Addr → TS}
theorem ps_try_two (hs : X.stack = X.env :: X.outer) (hf : X.env.frame = some X.env.locals) (hN : X.N.Nodup) (hi : X.N[i]? = some n) (hln : X.env.kindOf n = some .local) (nt1 : ∀ (a : Addr) (pn : List (Addr × Obj)), NamesT (X.suite a pn) elts cs1) (nt2 : ∀ (a : Addr) (pn : List (Addr × Obj)), NamesT (X.suite a pn) elts2 cs2)
    (hb : ∀ (W : WX) (pn : List (Addr × Obj)) (xe : Value → Shared → Prop), Takes (X.tr pn xe) W → PassesOwn (model X.prog X.w) X.A X.env xe → PSs (X.tr pn xe) body (tb W))
    (hsu1 : ∀ (a : Addr) (oe : Obj) (cls : Value) (d : Option Addr) (pn : List (Addr × Obj)), Zc cls d oe → (∃ vs, oe.data = .fields vs) → PSs (X.suite a ((a, oe) :: pn)) (b₀ :: suite) (ts1 a cls d))
    (hsu2 : ∀ (a : Addr) (oe : Obj) (cls : Value) (d : Option Addr) (pn : List (Addr × Obj)), Zc cls d oe → (∃ vs, oe.data = .fields vs) → PSs (X.suite a ((a, oe) :: pn)) (c₀ :: suite2) (ts2 a cls d)) :
    PS X (.Try body (.ExceptHandler (some (.Tuple elts kk np)) (some n) (b₀ :: suite) pos' :: .ExceptHandler (some (.Tuple elts2 kk2 np2)) (some n) (c₀ :: suite2) pos2 :: rest) [] [] pos) (fun D σ H => tb (wTwo X.K cs1 cs2 i X.N.length ts1 ts2 D) D σ H) := by
  refine ⟨fun pins s σ H D I h => ?_⟩
  have ok := I.ok
  have hfr : X.A.frames = some (X.env :: X.outer) := by rw [ok.frames, hs]
  have hloc : Loc X.env.scope n := .inl hln
  refine wpAny_Try_except (wpAny_mono ((hb (wTwo X.K cs1 cs2 i X.N.length ts1 ts2 D) (X.pn ++ pins) (fun e s₁ => wpAny (model X.prog X.w) X.A (noteFrame e X.env) (fun _ s₂ => wpAny (model X.prog X.w) X.A (setFlight e none) (fun _ s₃ =>
    wpAny (model X.prog X.w) X.A (handleBy e X.env (.ExceptHandler (some (.Tuple elts kk np)) (some n) (b₀ :: suite) pos' :: .ExceptHandler (some (.Tuple elts2 kk2 np2)) (some n) (c₀ :: suite2) pos2 :: rest)) (SP X pins D) X.xe s₃) X.xe s₂) X.xe s₁) (fun u s' xx => ?_) PassesOwn.looking).run [] s σ H D (I.toTry _) h) (fun f s1 hsp => ?_) (fun e s1 he => he))
  · obtain ⟨a, B, sI, pins', σ', H', cls, d, rfl, J', nb, up, sky, na, os, ag, hw⟩ := xx
    have J : Inv X pins σ' H' sI := J'.ofTry ok
    have sky' : Sky B (X.env :: X.outer) a (Zc cls d) X.env.locals s'.heap := by rw [← hs]; exact sky
    show wpAny (model X.prog X.w) X.A (noteFrame (.ref a) X.env) _ _ _
    refine Sky.land Zc.steady hfr hf sky' fun h3 fl3 up3 => ?_
    have frNo : ∀ {h : Heap} {o : Obj} {vs : Array Value}, h.FunFrames B (X.env :: X.outer) → h.get? a = some o → o.data = .fields vs → a ∉ frs (X.env :: X.outer) := fun {h o vs} ff e dd hm => by
      obtain ⟨_, o', e', hnf⟩ := ff.mem hm
      rw [e] at e'
      cases e'
      exact hnf _ dd
    -- a clause's suite
    have run : ∀ {b₀ : Stmt} {suite : List Stmt} {pos' : Pos} {rst : List ExceptHandler} {ts : Addr → Value → Option Addr → TS} (hsu : ∀ (a : Addr) (oe : Obj) (cls : Value) (d : Option Addr) (pn : List (Addr × Obj)), Zc cls d oe → (∃ vs, oe.data = .fields vs) → PSs (X.suite a ((a, oe) :: pn)) (b₀ :: suite) (ts a cls d))
        {elts : List Expr} {cs : List Value} {kk : Nat} {np : Pos} (nt : ∀ (a : Addr) (pn : List (Addr × Obj)), NamesT (X.suite a pn) elts cs) (hcl : cs.length ≤ 11)
        (hm : ∀ {tp : Addr} {h : Heap}, X.K.In h → PySem.W.Looks (model X.prog X.w) h (typeOf (.ref a)) cls → h.get? tp = some { cls := .type "tuple", data := .seq cs.toArray } → PySem.W.Looks (model X.prog X.w) h (excMatches (.ref a) (.ref tp)) true)
        (hyes : ∀ a, H' a = none → σ'.length = X.N.length → ts a cls d { nx := fun σ' H' => D.nx (σ'.set i none) H', rt := D.rt, bk := fun σ' H' => D.bk (σ'.set i none) H', ct := fun σ' H' => D.ct (σ'.set i none) H' } (σ'.set i (some (.ref a))) H')
        (h3 : Heap) (fl3 : HandSPX.FlyingZ B (X.env :: X.outer) a (Zc cls d) h3) (up3 : s'.heap.UpToSlots h3),
        wpAny (model X.prog X.w) X.A (handleBy (.ref a) X.env (.ExceptHandler (some (.Tuple elts kk np)) (some n) (b₀ :: suite) pos' :: rst)) (SP X pins D) X.xe { s' with heap := h3 } := by
      intro b₀ suite pos' rst ts hsu elts cs kk np nt hcl hm hyes h3 fl3 up3
      have J3 : Inv X pins σ' H' { s' with heap := h3 } := J.landed nb fl3.1 (up.trans up3) os ag
      obtain ⟨oe3, vs3, he3, hz3, hd3⟩ := fl3.there
      have nfr := frNo fl3.2.2.1 he3 hd3
      have nL : a ≠ X.env.locals := fun z => nfr (List.mem_filterMap.mpr ⟨X.env, List.mem_cons_self, by rw [hf, z]⟩)
      have nF : a ∉ X.fs := fun hm => by
        obtain ⟨e, he, q⟩ := List.mem_filterMap.mp hm
        exact nfr (List.mem_filterMap.mpr ⟨e, List.mem_cons_of_mem _ he, q⟩)
      have S3 := J3.suite he3 hd3 na nL nF
      refine wpAny_handleBy_cons (codeAny_handlers_test ?_) (by intro q; cases q)
      have kp : ∀ b o, h3.get? b = some o → (h3.push { cls := .type "tuple", data := .seq cs.toArray }).get? b = some o := fun b o e => Heap.get?_push_of_some _ e
      have LT : PySem.W.Looks (model X.prog X.w) (h3.push { cls := .type "tuple", data := .seq cs.toArray }) (typeOf (.ref a)) cls := fun A Q E s k q => wpAny_typeOf_ref (k _ _ (kp _ _ he3)) (by rw [hz3.1]; exact q)
      have LM := hm (J3.kIn.keeps kp) LT (Heap.get?_push_size h3 rfl)
      refine wpAny_Tuple_spliced (names_run (X := X.suite a ((a, oe3) :: (X.pn ++ pins))) S3 (nt a _) ⟨by rw [sizeLine_eq]; omega, ?_⟩)
      refine LM.here ?_
      refine codeAny_handlers_suite_as ?_
      refine HandSPX.lands_againZ (flying_keeps kp fl3) fun h4 fl4 up4 => ?_
      have upk : h3.UpToSlots (h3.push { cls := .type "tuple", data := .seq cs.toArray }) := fun b u e _ => ⟨u.slots, kp _ _ e⟩
      have J4 : Inv X pins σ' H' { s' with heap := h4 } := J.landed nb fl4.1 (((up.trans up3).trans upk).trans up4) os ag
      obtain ⟨oe4, vs4, he4, hz4, hd4⟩ := fl4.there
      have S4 := J4.suite he4 hd4 na nL nF
      refine store_ok (X := X.suite a ((a, oe4) :: (X.pn ++ pins))) (v := .ref a) S4 hN hi hloc rfl (fun s5 S5 => ?_) (.inr hln)
      refine wpAny_mono ((hsu a oe4 cls d (X.pn ++ pins) hz4 ⟨_, hd4⟩).run [] s5 _ H' _ S5 (hyes a na J.len)) (fun f s6 hsp => ?_) (fun _ _ z => False.elim z)
      have end_ : ∀ {σ6 : L2.St} {H6 : Hp} {Q : Shared → Prop}, Inv (X.suite a ((a, oe4) :: (X.pn ++ pins))) [] σ6 H6 s6 → (∀ s7, Inv X pins (σ6.set i none) H6 s7 → Q s7) → wpAny (model X.prog X.w) X.A (do bindName X.env n .none; unbindBehindTheSuite X.env n pos') (fun _ s7 => Q s7) X.xe s6 := fun {σ6 H6 Q} S6 hq => gone_ok (S6.unsuite ok) hN hi hln hq
      cases f with
      | next =>
        obtain ⟨σ6, H6, S6, q6⟩ := hsp
        exact end_ S6 fun s7 J7 => ⟨_, _, J7, q6⟩
      | brk =>
        obtain ⟨σ6, H6, S6, q6⟩ := hsp
        exact end_ S6 fun s7 J7 => ⟨_, _, J7, q6⟩
      | cont =>
        obtain ⟨σ6, H6, S6, q6⟩ := hsp
        exact end_ S6 fun s7 J7 => ⟨_, _, J7, q6⟩
      | ret u =>
        obtain ⟨v6, σ6, H6, S6, r6, q6⟩ := hsp
        exact end_ S6 fun s7 J7 => ⟨_, _, _, J7, r6, q6⟩
    rcases hw with ⟨hm, hyes⟩ | ⟨hno, hm, hyes⟩
    · exact run hsu1 nt1 (atTen_l hm) (fun X LT hp => atTen_m hm X LT hp) hyes h3 fl3 up3
    · have J3 : Inv X pins σ' H' { s' with heap := h3 } := J.landed nb fl3.1 (up.trans up3) os ag
      obtain ⟨oe3, vs3, he3, hz3, hd3⟩ := fl3.there
      have nfr := frNo fl3.2.2.1 he3 hd3
      have nL : a ≠ X.env.locals := fun z => nfr (List.mem_filterMap.mpr ⟨X.env, List.mem_cons_self, by rw [hf, z]⟩)
      have nF : a ∉ X.fs := fun hm => by
        obtain ⟨e, he, q⟩ := List.mem_filterMap.mp hm
        exact nfr (List.mem_filterMap.mpr ⟨e, List.mem_cons_of_mem _ he, q⟩)
      have S3 := J3.suite he3 hd3 na nL nF
      refine wpAny_handleBy_cons (codeAny_handlers_test ?_) (by intro q; cases q)
      have kp : ∀ b o, h3.get? b = some o → (h3.push { cls := .type "tuple", data := .seq cs1.toArray }).get? b = some o := fun b o e => Heap.get?_push_of_some _ e
      have LT : PySem.W.Looks (model X.prog X.w) (h3.push { cls := .type "tuple", data := .seq cs1.toArray }) (typeOf (.ref a)) cls := fun A Q E s k q => wpAny_typeOf_ref (k _ _ (kp _ _ he3)) (by rw [hz3.1]; exact q)
      have LM := atNone_m (M := model X.prog X.w) hno (J3.kIn.keeps kp) LT (Heap.get?_push_size h3 rfl)
      refine wpAny_Tuple_spliced (names_run (X := X.suite a ((a, oe3) :: (X.pn ++ pins))) S3 (nt1 a _) ⟨by have := atNone_l hno; rw [sizeLine_eq]; omega, ?_⟩)
      refine LM.here ?_
      have upk : h3.UpToSlots (h3.push { cls := .type "tuple", data := .seq cs1.toArray }) := fun b u e _ => ⟨u.slots, kp _ _ e⟩
      exact run hsu2 nt2 (atThree_l hm) (fun X LT hp => atThree_m hm X LT hp) hyes _ (flying_keeps kp fl3) (up3.trans upk)
  · cases f with
    | next =>
      obtain ⟨σ', H', J', q⟩ := hsp
      exact wpAny_execs_nil ⟨σ', H', J'.ofTry ok, q⟩
    | brk =>
      obtain ⟨σ', H', J', q⟩ := hsp
      exact ⟨σ', H', J'.ofTry ok, q⟩
    | cont =>
      obtain ⟨σ', H', J', q⟩ := hsp
      exact ⟨σ', H', J'.ofTry ok, q⟩
    | ret u =>
      obtain ⟨v, σ', H', J', r, q⟩ := hsp
      exact ⟨v, σ', H', J'.ofTry ok, r, q⟩
end
end GH

namespace Cp
open PySem PySem.Spec PyProof.Rows L2 Evl GN GZ
/-! Program over one procedure that has neither names nor statements: head_fits. -/
abbrev mP (j : Nat) : Stmt := inClass (top 81) j
structure PC (K : PySem.W.Frag) (C : Addr) : Prop where
  cls : Cls K C
  table : NoAttr K C "table"
  signs : NoAttr K C "signs"
  texts : NoAttr K C "texts"
  code : NoAttr K C "code"
def Nhf : List Str := ["self", "at", "name", "takes", "has", "gives", "words", "one", "kind"]
theorem sc_hf : FnScope Nhf ["self", "at", "name", "takes", "has", "gives"] (defScope (mP 5)) := ⟨rfl, rfl, rfl, by decide +kernel, rfl, by decide +kernel, by decide +kernel⟩
def spHf (K : PySem.W.Frag) (C : Addr) : Sp := fun vs H Q _ => ∃ x tk hs dx fs sg, vs = [.ref x, .int 0, .str "m", .ref tk, .ref hs, .non] ∧ H x = some (.ins C dx fs) ∧ fs.lookup ("signs" : Str) = some (V.ref sg) ∧ H sg = some (.dK []) ∧ SqL K H tk [] ∧ SqL K H hs [] ∧ RetV (.bl true) H Q
section
variable {K : PySem.W.Frag} {σ : L2.St} {H : Hp}
/-- a comprehension over nothing -/
theorem el_lcP0 {tl te : TE} {g : L2.TG} {tt : TT} {vs : List Nat} (h : EvL tl σ H []) : EvL (tLc (iList K tl) g tt te vs) σ H [] := fun H0 e0 Q q =>
  h H0 e0 _ fun a H1 ha e1 hx => ⟨a, rfl, ⟨[], sq_of hx⟩, fun D hD => lc_it (walk_list (xs := [])) (fun i H' => Ex H1 H' ∧ H' D = some (.lst [])) ⟨Ex.new hD, upd_same⟩ (fun i H' _ p => sq_of (p.1 a _ hx)) (fun i x H' H2 hi p y => by
    obtain ⟨rfl, hy⟩ := y
    simp at hy) fun H' p => q D H' (fresh_back e1 hD) (e1.trans p.1) p.2⟩
theorem el_lcV0 {tl te : TE} {g : L2.TG} {tt : TT} {vs : List Nat} {a : Addr} (h : Ev tl σ H (.ref a)) (hx : SqL K H a []) : EvL (tLc (iList K tl) g tt te vs) σ H [] := fun H0 e0 Q q =>
  h H0 e0 _ fun H1 e1 => ⟨a, rfl, ⟨[], ex_l (e0.trans e1) hx⟩, fun D hD => lc_it (walk_list (xs := [])) (fun i H' => Ex H1 H' ∧ H' D = some (.lst [])) ⟨Ex.new hD, upd_same⟩ (fun i H' _ p => ex_l ((e0.trans e1).trans p.1) hx) (fun i x H' H2 hi p y => by
    obtain ⟨rfl, hy⟩ := y
    simp at hy) fun H' p => q D H' (fresh_back e1 hD) (e1.trans p.1) p.2⟩
end
section
variable {P : Program} {w : World} {K : PySem.W.Frag} {mg : Str → Option Value} {base : Heap} {f : Addr} {fd : FuncData} {C : Addr}
theorem ok_hf {t : Tok} (F : MeP K "head_fits" "Program.head_fits" (mP 5) f fd) (pc : PC K C) (W : Cal P w K mg base "is_word" 1 ["text"] spWord)
    (gL : mg "len" = none) (gA : mg "all" = none) (gS : mg "set" = none) (gI : mg "list" = none) (gN : mg "NAMES" = some (.int 4 t)) : FnOk P w K mg base CX0 2 f fd ["self", "at", "name", "takes", "has", "gives"] (spHf K C) := by
  refine F.ok sc_hf (fun vs H Q E h => ?_) (fun cdv A outer s H vs Q E hr h => ?_)
  · obtain ⟨x, tk, hs, dx, fs, sg, rfl, _⟩ := h
    rfl
  · obtain ⟨x, tk, hs, dx, fs, sg, rfl, h1, h4, h5, g1, g2, k⟩ := h
    refine ⟨_, pss_cons (by
        refine ps_if (PW.pt (pw_or (pt_not (pt_val (by
          exact pe_call W.G hr (by rfl) W.g W.k W.b .nil pass0 (pa_cons (pv 2) pa_nil)) (by intro _; rfl))) (pw_or (pt_cmp (by
          exact pc_din (hu1 hr) (pv 2) (pe_fld (pv 0) rfl))) (pw_or1 (by
          exact pt_cmpR op_gt (pe_op op_add (pe_callB call_len_seq (by rfl) gL PySem.boot_len (pa_cons (pv 3) pa_nil)) (pe_callB call_len_seq (by rfl) gL PySem.boot_len (pa_cons (pv 4) pa_nil))) (pe_glob (v := .int 4) (by rfl) gN ⟨_, rfl⟩) (by rfl)))))) pss_no pss_nil) <| pss_cons (by
        exact ps_setLc (i := 6) (own := [("one", 7), ("kind", 8)]) (g := gTup K 2 (gCons (gName 7) (gCons (gName 8) gNil))) (tt := tYes) (te := tVar 7) rfl sc_hf.nd rfl rfl rfl (pi_list (by exact pe_op op_cat (pe_callTy call_list_of (by rfl) gI boot_list (pa_cons (pv 3) pa_nil)) (pe_callTy call_list_of (by rfl) gI boot_list (pa_cons (pv 4) pa_nil)))) (blkOk_by (by kernel_rfl)) (fun _ _ _ _ _ => pg_tup rfl (pgs_cons (pg_name (i := 7) sc_hf.nd rfl (Or.inl rfl)) (pgs_cons (pg_name (i := 8) sc_hf.nd rfl (Or.inl rfl)) pgs_nil))) (fun _ _ _ _ _ => pts_nil) (fun _ _ _ _ _ => by exact pv 7)) <| pss_cons (by
        refine ps_if (PW.pt (pw_or (pt_not (pt_val (pe_callB (cr_all rfl) (by rfl) gA boot_all (pa_cons (by
          exact pe_lc (own := [("one", 7)]) (g := gName 7) (tt := tYes) (te := fun _ _ _ => False) rfl sc_hf.nd (pi_list (pv 6)) (blkOk_by (by kernel_rfl)) (fun _ _ _ _ _ => pg_name (i := 7) sc_hf.nd rfl (Or.inl rfl)) (fun _ _ _ _ _ => pts_nil) (fun _ _ _ _ _ => pe_no)) pa_nil)) (by intro _; rfl))) (pw_or1 (by
          exact pt_cmpR op_lt (pe_lenSetS (by rfl) gL (by rfl) gS (pv 6)) (pe_callB call_len_seq (by rfl) gL PySem.boot_len (pa_cons (pv 6) pa_nil)) (nomark _))))) pss_no pss_nil) <| pss_cons (by
        refine ps_if (pt_not (pt_val (pe_callB (cr_all rfl) (by rfl) gA boot_all (pa_cons (by
          exact pe_lc (own := [("one", 7), ("kind", 8)]) (g := gTup K 2 (gCons (gName 7) (gCons (gName 8) gNil))) (tt := tYes) (te := fun _ _ _ => False) rfl sc_hf.nd (pi_list (by exact pe_op op_cat (pe_callTy call_list_of (by rfl) gI boot_list (pa_cons (pv 3) pa_nil)) (pe_callTy call_list_of (by rfl) gI boot_list (pa_cons (pv 4) pa_nil)))) (blkOk_by (by kernel_rfl)) (fun _ _ _ _ _ => pg_tup rfl (pgs_cons (pg_name (i := 7) sc_hf.nd rfl (Or.inl rfl)) (pgs_cons (pg_name (i := 8) sc_hf.nd rfl (Or.inl rfl)) pgs_nil))) (fun _ _ _ _ _ => pts_nil) (fun _ _ _ _ _ => pe_no)) pa_nil)) (by intro _; rfl))) pss_no pss_nil) <| pss_one (by
        exact ps_ret (pe_ifExp (pt_cmpR op_eq (pv 1) pe_int (nomark _)) (pe_and (pe_cmpR op_eq (pe_callB call_len_seq (by rfl) gL PySem.boot_len (pa_cons (pv 3) pa_nil)) pe_int (nomark _)) (pe_one (pe_cmpR op_isN (pv 5) pe_non (nomark _)))) pe_no)), ?_⟩
    have none0 : ∀ {H' : Hp} {σ : L2.St}, Ex H H' → σ[3]? = some (some (.ref tk)) → σ[4]? = some (some (.ref hs)) → EvL (tOp rCat (tCB (fun xs H Q => ∃ p ys, xs = [.ref p] ∧ (SqL K H p ys ∨ SqT K H p ys) ∧ ∀ l, H l = none → Q (.ref l) (upd H l (.lst ys))) (tCons (tVar 3) tNil)) (tCB (fun xs H Q => ∃ p ys, xs = [.ref p] ∧ (SqL K H p ys ∨ SqT K H p ys) ∧ ∀ l, H l = none → Q (.ref l) (upd H l (.lst ys))) (tCons (tVar 4) tNil))) σ H' [] := fun e z3 z4 => el_cat (xs := []) (ys := []) (el_of (ev_var z3) (.inl (ex_l e g1))) (el_of (ev_var z4) (.inl (ex_l e g2))) (by simp)
    refine q_no (et_orF (et_is (et_not (et_B (ev_is (ev_call (ea_cons (ev_var rfl) ea_nil) (RetV.call fun H1 e Q E q => ⟨"m", rfl, by decide, by decide, q⟩)) (by rw [show isW "m" = true by decide +kernel])))) rfl) (et_orF (et_B (ev_is (ev_din (k := .inr "m") (ev_var rfl) (ev_fld (ev_var rfl) h1 pc.cls pc.signs h4) (.inl h5)) rfl)) (et_test (ev_is (ev_op (x := .int 0) (y := .int 4) (ev_is (ev_op (ev_lenQ (xs := []) (ev_var rfl) (.inl g1)) (ev_lenQ (xs := []) (ev_var rfl) (.inl g2)) rv_I0) rfl) ev_c rv_I0) rfl)))) fun H1 e1 => ?_
    refine q_asgL (xs := []) (el_lcP0 (none0 e1 rfl rfl)) fun pw H2 hpw e2 hw2 => ?_
    have e02 := e1.trans e2
    refine q_no (et_orF (et_is (et_not (et_B (ev_all (bs := []) (el_lcV0 (ev_var rfl) (sq_of hw2))))) rfl) (et_test (ev_is (ev_op (x := .int 0) (y := .int 0) (fun H3 e3 Q q => ⟨.ref pw, rfl, pw, [], rfl, ex_l e3 (sq_of hw2), by decide, by decide, q H3 (Ex.refl _)⟩) (ev_lenQ (xs := []) (ev_var rfl) (.inl (sq_of hw2))) rv_I0) rfl))) fun H3 e3 => ?_
    have e03 := e02.trans e3
    refine q_no (et_is (et_not (et_B (ev_all (bs := []) (el_lcP0 (none0 e03 rfl rfl))))) rfl) fun H4 e4 => ?_
    have e04 := e03.trans e4
    exact s_ret (v := .bl true) (ev_if (b := true) (et_is (et_eq (ev_var rfl) ev_c rfl) (by decide)) (fun _ => ev_is (ev_andV (a := true) (b := true) (ev_is (ev_op (x := .int 0) (y := .int 0) (ev_lenQ (xs := []) (ev_var rfl) (.inl (ex_l e04 g1))) ev_c (rv_eq rfl)) (by simp)) fun _ => ev_op (x := .non) (y := .non) (z := .bl true) (ev_var rfl) ev_c fun H5 e5 Q q => ⟨rfl, q H5 (Ex.refl _)⟩) rfl) (fun z => (nomatch z))) fun H5 e5 => k.go (e04.trans e5)
end
end Cp

namespace Cp
open PySem PySem.Spec PyProof.Rows L2 Evl GN GZ
/-! check_ends over one empty procedure -/
section
variable {K : PySem.W.Frag} {σ : L2.St} {H : Hp}
theorem ew_enumK {ta : TA} {c : Addr} {o : Obj} {kvs : List (L2.Key × V)} (h : EvA ta σ H [.ref c]) (hc : H c = some (.frz o (.dK kvs))) : EvW (iEnumS K ta) σ H kvs.length (YPair (fun i => some (.int (i : Nat))) fun i => (kvs[i]?).map fun p => kV p.1) :=
  ⟨Itek c o kvs, fun H1 => H1 c = some (.frz o (.dK kvs)), walk_enumK, fun H1 e => e c _ hc, fun H1 e R q => h H1 e _ fun H2 e2 => ⟨c, rfl, .inr (.inr ⟨o, kvs, (e.trans e2) c _ hc, q H2 e2⟩)⟩⟩
end
abbrev esM (r : Addr) : List Ent := [(("m" : Str), r, ([] : List Sh))]
def Nce : List Str := ["self", "known", "at", "name", "number", "row", "index", "path", "give"]
theorem sc_ce : FnScope Nce ["self"] (defScope (mP 1)) := ⟨rfl, rfl, rfl, by decide +kernel, rfl, by decide +kernel, by decide +kernel⟩
def spCe (K : PySem.W.Frag) (C : Addr) : Sp := fun vs H Q _ => ∃ x c r dx fs, vs = [.ref x] ∧ H x = some (.ins C dx fs) ∧ fs.lookup ("code" : Str) = some (V.ref c) ∧ CodeOf K H c (esM r) ∧ H r = some (.lst []) ∧ ∀ H2, Ex H H2 → Q .non H2
section
variable {P : Program} {w : World} {K : PySem.W.Frag} {mg : Str → Option Value} {base : Heap} {f : Addr} {fd : FuncData} {C : Addr}
theorem ok_ce (F : MeP K "check_ends" "Program.check_ends" (mP 1) f fd) (pc : PC K C) (R : Cal P w K mg base "returning" 2 ["rows_by"] (spRet K)) (gE : mg "enumerate" = none) : FnOk P w K mg base CX0 3 f fd ["self"] (spCe K C) := by
  refine F.ok sc_ce (fun vs H Q E h => ?_) (fun cdv A outer s H vs Q E hr h => ?_)
  · obtain ⟨x, c, r, dx, fs, rfl, _⟩ := h
    rfl
  · obtain ⟨x, c, r, dx, fs, rfl, hx, hco, hCode, hr0, k⟩ := h
    refine ⟨_, pss_cons (by
        exact ps_asg (pe_call R.G hr (by rfl) R.g R.k R.b .nil pass0 (pa_cons (pe_fld (pv 0) rfl) pa_nil)) (pg_name (i := 1) sc_ce.nd rfl (Or.inl rfl))) <| pss_cons (by
        refine ps_lock (ps_for (passes_of rfl) rfl (pi_enumS (by rfl) gE (pa_cons (pe_fld (pv 0) rfl) pa_nil)) (pg_tup rfl (pgs_cons (pg_name (i := 2) sc_ce.nd rfl (Or.inl rfl)) (pgs_cons (pg_name (i := 3) sc_ce.nd rfl (Or.inl rfl)) pgs_nil))) (pss_one (by
          refine ps_if (pt_cmp (pc_dnotin (hu1 hr) (pv 3) (pv 1))) pss_no pss_nil)))) <| pss_one (by
        refine ps_lock (ps_for (passes_of rfl) rfl (pi_enumS (by rfl) gE (pa_cons (pe_fld (pv 0) rfl) pa_nil)) (pg_tup rfl (pgs_cons (pg_name (i := 2) sc_ce.nd rfl (Or.inl rfl)) (pgs_cons (pg_name (i := 3) sc_ce.nd rfl (Or.inl rfl)) pgs_nil))) (pss_one (by
          refine ps_for (passes_of rfl) rfl (pi_enumS (by rfl) gE (pa_cons (pe_dget (hu1 hr) (pe_fld (pv 0) rfl) (pv 3) (fun _ _ => rfl)) pa_nil)) (pg_tup rfl (pgs_cons (pg_name (i := 4) sc_ce.nd rfl (Or.inl rfl)) (pgs_cons (pg_name (i := 5) sc_ce.nd rfl (Or.inl rfl)) pgs_nil))) pss_no)))), ?_⟩
    obtain ⟨hc, hnd, hlen, hR⟩ := id hCode
    have hxc : x ≠ c := fun z => by rw [z, hc] at hx; cases hx
    have hrc : r ≠ c := fun z => by rw [z, hc] at hr0; cases hr0
    refine ⟨.ref x, rfl, x, C, dx, fs, _, rfl, hx, pc.cls, pc.code, hco, c, (esM r), rfl, hCode, fun p kvs H2 hp e2 hkv hL hC => ?_⟩
    have hk : kn kvs "m" = true := hC (("m" : Str), r, ([] : List Sh)) List.mem_cons_self rfl
    have hpc : p ≠ c := fun z => by rw [z, hc] at hp; cases hp
    refine ⟨c, _, e2 c _ hc, trivial, fun od => ?_⟩
    have ef : Ex (upd H c (.frz od (.dK ((esM r).map entK)))) (upd H2 c (.frz od (.dK ((esM r).map entK)))) := ex_frz e2
    have fx : ∀ {od : Obj}, (upd H c (.frz od (.dK ((esM r).map entK)))) x = some (.ins C dx fs) := by intro od; rw [upd_ne hxc]; exact hx
    have fc : ∀ {od : Obj}, (upd H c (.frz od (.dK ((esM r).map entK)))) c = some (.frz od (.dK ((esM r).map entK))) := by intro od; exact upd_same
    have fr : ∀ {od : Obj}, (upd H c (.frz od (.dK ((esM r).map entK)))) r = some (.lst []) := by intro od; rw [upd_ne hrc]; exact hr0
    refine s_forW (H0 := upd H c (.frz od (.dK ((esM r).map entK)))) (ew_enumK (ea_cons (ev_fld (ev_var rfl) fx pc.cls pc.code hco) ea_nil) fc) ef
      (fun i σ' H' => ∃ p2 p3, σ' = [some (.ref x), some (.ref p), p2, p3, none, none, none, none, none] ∧ Ex (upd H c (.frz od (.dK ((esM r).map entK)))) H' ∧ H' p = some (.dK kvs)) ?_ (fun i σ' H' _ z => ?_) ?_ ?_
    · intro H3 e3
      exact ⟨_, _, rfl, ef.trans e3, e3 p _ (by rw [upd_ne hpc]; exact hkv)⟩
    · obtain ⟨_, _, _, z, _⟩ := z
      exact z
    · rintro i x1 σ' H3 H4 hi ⟨p2, p3, rfl, e3, hp3⟩ ⟨TT, v5, x6, rfl, hT, rfl, h5, h6⟩
      have hi : i < 1 := hi
      have hi0 : i = 0 := by omega
      subst hi0
      have h5 : V.int ((0 : Nat) : Int) = v5 := Option.some.inj h5
      subst h5
      have h6 : V.str "m" = x6 := Option.some.inj h6
      subst h6
      have eT : Ex H3 (upd H3 TT (.tup [.int ((0 : Nat) : Int), .str "m"])) := Ex.new hT
      refine g_two (st_of upd_same) ?_
      refine s_when (b := false) (et_is (et_B (ev_dnotin (k := .inr "m") (ev_var rfl) (ev_var rfl) (.inl (eT p _ hp3)))) (by rw [show (valV kvs (.inr "m")).isSome = true from hk]; rfl)) (fun z => (nomatch z)) fun _ H5 e5 => ⟨_, _, rfl, (e3.trans eT).trans e5, e5 p _ (eT p _ hp3)⟩
    · rintro σ' H3 ⟨p2, p3, rfl, e3, hp3⟩
      refine ⟨e3 c _ fc, ?_⟩
      have e4 : Ex H (upd H3 c (.dK ((esM r).map entK))) := ex_thaw hc e3
      refine ⟨c, _, upd_same, trivial, fun od2 => ?_⟩
      have ef2 : Ex (upd H c (.frz od2 (.dK ((esM r).map entK)))) (upd (upd H3 c (.dK ((esM r).map entK))) c (.frz od2 (.dK ((esM r).map entK)))) := ex_frz e4
      refine s_forW (H0 := upd H c (.frz od2 (.dK ((esM r).map entK)))) (ew_enumK (ea_cons (ev_fld (ev_var rfl) fx pc.cls pc.code hco) ea_nil) fc) ef2
        (fun i σ' H' => ∃ p2 p3 p4 p5 p6 p7 p8, σ' = [some (.ref x), some (.ref p), p2, p3, p4, p5, p6, p7, p8] ∧ Ex (upd H c (.frz od2 (.dK ((esM r).map entK)))) H') ?_ (fun i σ' H' _ z => ?_) ?_ ?_
      · intro H5 e5
        exact ⟨_, _, _, _, _, _, _, rfl, ef2.trans e5⟩
      · obtain ⟨_, _, _, _, _, _, _, _, z⟩ := z
        exact z
      · rintro i x1 σ' H5 H6 hi ⟨p2, p3, p4, p5, p6, p7, p8, rfl, e5⟩ ⟨TT, v5, x6, rfl, hT, rfl, h5, h6⟩
        have hi : i < 1 := hi
        have hi0 : i = 0 := by omega
        subst hi0
        have h6 : V.str "m" = x6 := Option.some.inj h6
        subst h6
        have eT : Ex H5 (upd H5 TT (.tup [v5, .str "m"])) := Ex.new hT
        refine g_two (st_of upd_same) ?_
        refine s_forW (H0 := upd H c (.frz od2 (.dK ((esM r).map entK)))) (ew_enum (xs := []) (ea_cons (ev_dget (k := .inr "m") (v := .ref r) (ev_fld (ev_var rfl) fx pc.cls pc.code hco) (ev_var rfl) (.inr ⟨od2, fc⟩) rfl) ea_nil) (.inl (sq_of fr))) (e5.trans eT)
          (fun j σ' H' => ∃ p2 p3 p4 p5 p6 p7 p8, σ' = [some (.ref x), some (.ref p), p2, p3, p4, p5, p6, p7, p8] ∧ Ex (upd H c (.frz od2 (.dK ((esM r).map entK)))) H') ?_ (fun j σ' H' _ z => ?_) ?_ ?_
        · intro H7 e7
          exact ⟨_, _, _, _, _, _, _, rfl, (e5.trans eT).trans e7⟩
        · obtain ⟨_, _, _, _, _, _, _, _, z⟩ := z
          exact z
        · rintro j x2 σ' H7 H8 hj
          exact absurd hj (Nat.not_lt_zero _)
        · rintro σ' H7 ⟨q2, q3, q4, q5, q6, q7, q8, rfl, e7⟩
          exact ⟨_, _, _, _, _, _, _, rfl, e7⟩
      · rintro σ' H5 ⟨p2, p3, p4, p5, p6, p7, p8, rfl, e5⟩
        exact ⟨e5 c _ fc, k _ (ex_thaw hc e5)⟩
end
end Cp

namespace Cp
open PySem PySem.Spec PyProof.Rows L2 Evl GN GZ
/-! ### a dict comprehension, its values told by El -/
def zipD (kf : Nat → L2.Key) (ys : List V) (n : Nat) : List (L2.Key × V) := ((List.range n).map kf).zip ys
def EvD (te : TE) (σ : L2.St) (Hw H : Hp) (n : Nat) (kf : Nat → L2.Key) (El : Nat → V → Hp → Prop) : Prop := ∀ H1, Ex Hw H1 → ∀ Q : VK, (∀ p ys H2, H1 p = none → Ex H1 H2 → H2 p = some (.dK (zipD kf ys n)) → (∀ H3, Ex H H3 → (∀ a o, a ≠ p → H1 a = none → H2 a = some o → H3 a = some o) → Els El (List.range n) ys H3) → Q (.ref p) H2) → te σ H1 Q
theorem valV_zip_none {k : L2.Key} : ∀ {ks : List L2.Key} {ys : List V}, k ∉ ks → valV (ks.zip ys) k = none
  | [], _, _ => rfl
  | _ :: _, [], _ => rfl
  | a :: ks, y :: ys, h => by
    rw [List.zip_cons_cons, valV_neg (fun z => h (by rw [← z]; exact List.mem_cons_self))]
    exact valV_zip_none fun z => h (List.mem_cons_of_mem _ z)
theorem putK_new {kvs : List (L2.Key × V)} {k : L2.Key} {v : V} (h : valV kvs k = none) : putK kvs k v = kvs ++ [(k, v)] := by
  unfold putK
  have e := valV_any k kvs
  rw [h] at e
  rw [if_neg (by rw [e]; decide)]
theorem valV_zip {k : L2.Key} {y : V} : ∀ {ks : List L2.Key} {ys : List V} {j : Nat}, ks.Nodup → ks[j]? = some k → ys[j]? = some y → valV (ks.zip ys) k = some y
  | [], _, _, _, h, _ => by simp at h
  | _ :: _, [], _, _, _, h => by simp at h
  | a :: ks, z :: ys, 0, _, h1, h2 => by
    cases h1
    cases h2
    exact valV_pos rfl
  | a :: ks, z :: ys, j + 1, hn, h1, h2 => by
    rw [List.nodup_cons] at hn
    have h1 : ks[j]? = some k := h1
    rw [List.zip_cons_cons, valV_neg (fun q => hn.1 (by rw [show a = k from q]; exact List.mem_of_getElem? h1))]
    exact valV_zip hn.2 h1 h2
section
variable {K : PySem.W.Frag} {σ : L2.St} {H : Hp}
theorem ed_dc {Hw : Hp} {wi : TI} {g : L2.TG} {tk tv : TE} {vs : List Nat} {n : Nat} {Y : Nat → Hp → V → Hp → Prop} {kf : Nat → L2.Key} {El : Nat → V → Hp → Prop} (inj : ∀ i j, i < n → j < n → kf i = kf j → i = j) (eHw : Ex H Hw) (hw : EvW wi σ Hw n Y) (hn : n ≤ 1000)
    (turn : ∀ i x H1 H2, i < n → Ex Hw H1 → Y i H1 x H2 → Ex H1 H2 ∧ ∀ Q : L2.St → Hp → Prop, (∀ σ2 H3, Ex H2 H3 → wipe σ2 vs = wipe σ vs → (∀ H4, Ex H3 H4 → Ev tk σ2 H4 (kV (kf i))) → (∀ H4, Ex H3 H4 → ∀ Q : VK, (∀ v H5, Ex H4 H5 → (∀ H6, Kp H H1 H5 H6 → El i v H6) → Q v H5) → tv σ2 H4 Q) → Q σ2 H3) → g x (wipe σ vs) H2 Q) :
    EvD (tDc wi g tYes tk tv vs) σ Hw H n kf El := fun H0 e0 Q q => by
  obtain ⟨J, G, w, hG, hwi⟩ := hw
  refine hwi H0 e0 _ fun H1 e1 D hD => ?_
  refine ⟨fun i m H' => m = n - i ∧ i ≤ n ∧ Ex H1 H' ∧ ∃ ys, H' D = some (.dK (zipD kf ys i)) ∧ ys.length = i ∧ ∀ H3, Ex H H3 → (∀ a o, a ≠ D → H1 a = none → H' a = some o → H3 a = some o) → Els El (List.range i) ys H3, ⟨n, by simp, Nat.zero_le _, Ex.new hD, [], upd_same, rfl, fun H3 _ _ => ⟨rfl, fun j k y z => by simp at z⟩⟩, ?_⟩
  rintro i m H' ⟨rfl, hin, p1, ys, p2, p4, p3⟩
  have gg := hG H' ((e0.trans e1).trans p1)
  by_cases hlt : i < n
  · refine .inr ⟨w.goes i H' hlt gg, fun H2 => (i + 1 ≤ n ∧ Ex H1 H2 ∧ ∃ ys, H2 D = some (.dK (zipD kf ys (i + 1))) ∧ ys.length = i + 1 ∧ ∀ H3, Ex H H3 → (∀ a o, a ≠ D → H1 a = none → H2 a = some o → H3 a = some o) → Els El (List.range (i + 1)) ys H3), fun H2 z => ⟨n - (i + 1), by omega, rfl, z⟩, fun x H2 y => ?_⟩
    obtain ⟨t1, t2⟩ := turn i x H' H2 hlt ((e0.trans e1).trans p1) (w.yields i H' x H2 hlt gg y)
    refine t2 _ fun σ2 H3 e3 hwp hk hv => ⟨hwp, ?_⟩
    show tk σ2 H3 _
    refine hk H3 (Ex.refl _) H3 (Ex.refl _) _ fun H4 e4 => hv H4 e4 _ fun v H5 e5 hE => ?_
    have e05 : Ex H' H5 := ((t1.trans e3).trans e4).trans e5
    have d5 : H5 D = some (.dK (zipD kf ys i)) := e05 D _ p2
    have hnew : valV (zipD kf ys i) (kf i) = none := valV_zip_none fun z => by
      obtain ⟨j, hj, hjk⟩ := List.mem_map.mp z
      have hj := List.mem_range.mp hj
      have := inj j i (by omega) hlt hjk
      omega
    have hz : zipD kf (ys ++ [v]) (i + 1) = zipD kf ys i ++ [(kf i, v)] := by
      unfold zipD
      rw [List.range_succ, List.map_append, List.zip_append (by rw [List.length_map, List.length_range, p4])]
      rfl
    refine ⟨_, kf i, rfl, d5, ?_, hlt, Ex.mut (p1.trans e05) hD, ys ++ [v], ?_, by rw [List.length_append, p4]; rfl, fun H6 e6 k6 => ?_⟩
    · have : (zipD kf ys i).length ≤ i := by
        unfold zipD
        rw [List.length_zip, List.length_map, List.length_range]
        omega
      exact sz_lt (by omega)
    · rw [upd_same, putK_new hnew, hz]
    · rw [List.range_succ]
      have old := p3 H6 e6 fun a o ha n h => k6 a o ha n (by rw [upd_ne ha]; exact e05 a o h)
      refine Els.more old (hE H6 ⟨e6, fun a o n h => ?_⟩)
      have ha : a ≠ D := fun z => by rw [z, p2] at n; cases n
      exact k6 a o ha (fresh_back p1 n) (by rw [upd_ne ha]; exact h)
  · have e : i = n := by omega
    subst e
    exact .inl ⟨w.stops H' gg, q D ys H' (fresh_back e1 hD) (e1.trans p1) p2 fun H3 k3 kk => p3 H3 k3 fun a o ha n h => kk a o ha (fresh_back e1 n) h⟩
/-- (a, b) for each pair of a tuple of pairs -/
theorem en_prs {tl : TE} {i j : Nat} {vs : List Nat} {a : Addr} {ts : List V} (pr : Nat → V × V) (hij : i ≠ j) (hl : ts.length ≤ 1000) (h : Ev tl σ H (.ref a)) (hx : SqT K H a ts) (hi : i < σ.length) (hj : j < σ.length) (hwp : ∀ x y, wipe (((wipe σ vs).set i (some x)).set j (some y)) vs = wipe σ vs) (hwl : (wipe σ vs).length = σ.length)
    (hp : ∀ (n : Nat) v, ts[n]? = some v → ∃ t, v = .ref t ∧ SqT K H t [(pr n).1, (pr n).2]) : EvN (tLc (iTup K tl) (gTup K 2 (gCons (gName i) (gCons (gName j) gNil))) tYes (tTup (tCons (tVar i) (tCons (tVar j) tNil))) vs) σ H (ixs ts.length fun _ => true) (fun n y H3 => ∃ p, y = .ref p ∧ H3 p = some (.tup [(pr n).1, (pr n).2])) := by
  refine en_lc (fun _ => true) (ew_tup h hx) (by omega) fun n x H1 H2 hn e y => ?_
  obtain ⟨rfl, hy⟩ := y
  obtain ⟨t, rfl, ht⟩ := hp n x hy
  refine ⟨Ex.refl _, fun Q q => g_two (ex_t e ht) (q _ H2 (Ex.refl _) (hwp _ _) et_yes fun _ H4 e4 Q2 q2 => ?_)⟩
  have v1 : (((wipe σ vs).set i (some (pr n).1)).set j (some (pr n).2))[i]? = some (some (pr n).1) := by
    rw [List.getElem?_set_ne (Ne.symm hij), List.getElem?_set_self (by rw [hwl]; exact hi)]
  have v2 : (((wipe σ vs).set i (some (pr n).1)).set j (some (pr n).2))[j]? = some (some (pr n).2) := by
    rw [List.getElem?_set_self (by rw [List.length_set, hwl]; exact hj)]
  exact ⟨_, v1, _, v2, sz_of (n := 2) (by decide), fun p hp' => q2 (.ref p) _ (Ex.new hp') fun H6 k => ⟨p, rfl, k.new p _ (fresh_back e4 hp') upd_same⟩⟩
end
end Cp

namespace Cp
open PySem PySem.Spec PyProof.Rows L2 Evl GN GZ
theorem putP1 (v : V) : putF "table" v [] = [(("table" : Str), v)] := rfl
theorem putP2 (v w : V) : putF "signs" w [(("table" : Str), v)] = [(("table" : Str), v), (("signs" : Str), w)] := by
  unfold putF
  rw [if_neg (by decide)]
  rfl
theorem putP3 (v w u : V) : putF "texts" u [(("table" : Str), v), (("signs" : Str), w)] = [(("table" : Str), v), (("signs" : Str), w), (("texts" : Str), u)] := by
  unfold putF
  rw [if_neg (by decide)]
  unfold putF
  rw [if_neg (by decide)]
  rfl
theorem putP4 (v w u y : V) : putF "code" y [(("table" : Str), v), (("signs" : Str), w), (("texts" : Str), u)] = [(("table" : Str), v), (("signs" : Str), w), (("texts" : Str), u), (("code" : Str), y)] := by
  unfold putF
  rw [if_neg (by decide)]
  unfold putF
  rw [if_neg (by decide)]
  unfold putF
  rw [if_neg (by decide)]
  rfl
section
variable {K : PySem.W.Frag} {σ : L2.St} {H : Hp}
theorem g_five {i a b c d e : Nat} {T t : Addr} {u v1 v2 v3 v4 v5 : V} {Q : L2.St → Hp → Prop} (hT : SqT K H T [u, .ref t]) (ht : SqT K H t [v1, v2, v3, v4, v5]) (k : Q ((((((σ.set i (some u)).set a (some v1)).set b (some v2)).set c (some v3)).set d (some v4)).set e (some v5)) H) :
    gTup K 2 (gCons (gName i) (gCons (gTup K 5 (gCons (gName a) (gCons (gName b) (gCons (gName c) (gCons (gName d) (gCons (gName e) gNil)))))) gNil)) (.ref T) σ H Q :=
  ⟨T, _, rfl, hT, rfl, u, _, rfl, .ref t, _, rfl, t, _, rfl, ht, rfl, v1, _, rfl, v2, _, rfl, v3, _, rfl, v4, _, rfl, v5, _, rfl, rfl, rfl, k⟩
end
end Cp

namespace Cp
open PySem PySem.Spec PyProof.Rows L2 Evl GN GZ GF
/-! Program.__init__ over one empty procedure -/
/-- all but instances is still to be read -/
def Ry (H H' : Hp) : Prop := ∀ a u, (∀ C dx fs, u ≠ HO.ins C dx fs) → Rd H a u → Rd H' a u
theorem Ry.l {K : PySem.W.Frag} {H H' : Hp} {a : Addr} {xs : List V} (e : Ry H H') (h : SqL K H a xs) : SqL K H' a xs := h.elim (fun z => .inl (e _ _ (fun _ _ _ q => by cases q) z)) .inr
theorem Ry.t {K : PySem.W.Frag} {H H' : Hp} {a : Addr} {xs : List V} (e : Ry H H') (h : SqT K H a xs) : SqT K H' a xs := h.elim (fun z => .inl (e _ _ (fun _ _ _ q => by cases q) z)) .inr
theorem Ry.q {K : PySem.W.Frag} {H H' : Hp} {a : Addr} {xs : List V} (e : Ry H H') (h : Sq K H a xs) : Sq K H' a xs := h.elim (fun z => .inl (e.l z)) (fun z => .inr (e.t z))
theorem ry_del {H : Hp} {x C dx : Addr} {fs : List (Str × V)} (hx : H x = some (.ins C dx fs)) : Ry H (del H x) := fun a u hu h => by
  have ha : a ≠ x := fun z => by
    subst z
    rcases h with h | ⟨o', h⟩
    · rw [hx] at h
      cases h
      exact hu _ _ _ rfl
    · rw [hx] at h
      cases h
  rcases h with h | ⟨o', h⟩
  · exact .inl (by rw [del_ne ha]; exact h)
  · exact .inr ⟨o', by rw [del_ne ha]; exact h⟩
theorem ex_del {H : Hp} {x : Addr} : Ex (del H x) H := fun a o h => by
  by_cases z : a = x
  · subst z
    rw [del_same] at h
    cases h
  · rw [del_ne z] at h
    exact h
def spBd0 (K : PySem.W.Frag) : Sp := fun vs H Q _ => ∃ a, vs = [.ref a] ∧ Sq K H a [] ∧ ∀ p H2, H p = none → Ex H H2 → H2 p = some (.tup []) → Q (.ref p) H2
theorem sc_body : FnScope ["body", "statement"] ["body"] (defScope (top 78)) := ⟨rfl, rfl, rfl, by decide +kernel, rfl, by decide +kernel, by decide +kernel⟩
def Npi : List Str := ["self", "kinds", "procedures", "at", "name", "takes", "has", "gives", "body", "one", "kind", "row", "number", "statement"]
theorem sc_pi : FnScope Npi ["self", "kinds", "procedures"] (defScope (mP 0)) := ⟨rfl, rfl, rfl, by decide +kernel, rfl, by decide +kernel, by decide +kernel⟩
def lcPr (K : PySem.W.Frag) (i : Nat) : TE := tLc (iList K (tVar i)) (gTup K 2 (gCons (gName 9) (gCons (gName 10) gNil))) tYes (tTup (tCons (tVar 9) (tCons (tVar 10) tNil))) [9, 10]
def spPi (K : PySem.W.Frag) (C : Addr) : Sp := fun vs H Q _ => ∃ x dx tb pr t tk hs bo, vs = [.ref x, .ref tb, .ref pr] ∧ H x = some (.ins C dx []) ∧ SqL K H pr [.ref t] ∧ SqT K H t [.str "m", .ref tk, .ref hs, .non, .ref bo] ∧ SqL K H tk [] ∧ SqL K H hs [] ∧ SqT K H bo [] ∧
  ∀ H2, (∀ a o, a ≠ x → H a = some o → H2 a = some o) → Q .non H2
theorem els1 {El : Nat → V → Hp → Prop} {ys : List V} {H : Hp} (h : Els El (List.range 1) ys H) : ∃ a, ys = [a] ∧ El 0 a H := by
  obtain ⟨l, k⟩ := h
  match ys, l with
  | [a], _ => exact ⟨a, rfl, k 0 0 a rfl rfl⟩
/-- return tuple(a new list told by El) -/
theorem s_retTup {K : PySem.W.Frag} {σ : L2.St} {H H0 : Hp} {te : TE} {D : Ends} {ks : List Nat} {El : Nat → V → Hp → Prop} (h : EvN te σ H0 ks El) (e0 : Ex H0 H)
    (k : ∀ l ys H2, H l = none → Ex H H2 → H2 l = some (.tup ys) → (∀ H3, Kp H0 H H2 H3 → Els El ks ys H3) → D.rt (.ref l) H2) :
    tRet (tCB (fun xs H Q => ∃ p ys, xs = [.ref p] ∧ ((SqL K H p ys ∧ ∀ l, H l = none → Q (.ref l) (upd H l (.tup ys))) ∨ (SqT K H p ys ∧ Q (.ref p) H))) (tCons te tNil)) D σ H := h H e0 _ fun p ys H1 hp e1 h1 z =>
  ⟨p, ys, rfl, .inl ⟨sq_of h1, fun l hl => k l ys _ (fresh_back e1 hl) (e1.trans (Ex.new hl)) upd_same fun H3 kk => z H3 ⟨kk.old, fun c o n hc => kk.new c o n (by rw [upd_ne (ne_of_none hc hl)]; exact hc)⟩⟩⟩
section
variable {P : Program} {w : World} {K : PySem.W.Frag} {mg : Str → Option Value} {base : Heap} {f : Addr} {fd : FuncData} {C : Addr}
theorem ok_bd0 (F : FnP K "plain_body" (top 78) [] f fd) (gT : mg "tuple" = none) : FnOk P w K mg base CX0 1 f fd ["body"] (spBd0 K) := by
  refine F.ok sc_body (fun vs H Q E h => ?_) (fun cdv A outer s H vs Q E hr h => ?_)
  · obtain ⟨a, rfl, _⟩ := h
    rfl
  · obtain ⟨a, rfl, hs, k⟩ := h
    refine ⟨_, pss_one (by
      refine ps_ret (pe_callTy call_tuple_of (by rfl) gT boot_tuple (pa_cons (by
        exact pe_lc (own := [("statement", 1)]) (g := gName 1) (tt := tYes) (te := fun _ _ _ => False) rfl sc_body.nd (pi_sq 0) (blkOk_by (by kernel_rfl)) (fun _ _ _ _ _ => pg_name (i := 1) sc_body.nd rfl (Or.inl rfl)) (fun _ _ _ _ _ => pts_nil) (fun _ _ _ _ _ => pe_no)) pa_nil))), ?_⟩
    have el : EvN (tLc (iSq K 0) (gName 1) tYes (fun _ _ _ => False) [1]) (start ["body", "statement"] [.ref a]) H (ixs ([] : List V).length fun _ => true) (fun i y H3 => True) := by
      refine en_lcN (fun _ => true) (ew_sq rfl hs) (by decide) (fun i H1 x H2 y => y.1) (fun x => rfl) (fun i x H1 hi e y => et_yes) fun i x H1 hi e y _ => ?_
      exact absurd hi (Nat.not_lt_zero _)
    refine s_retTup el (Ex.refl _) fun l ys H2 hl' e2 h2 z => ?_
    obtain ⟨z1, _⟩ := z H2 (Kp.self e2)
    have hy : ys = [] := List.eq_nil_of_length_eq_zero z1
    subst hy
    exact k l H2 hl' e2 h2
theorem ok_pi {fN : Addr} {fdN : FuncData} {tP tS tN : Tok} (F : MeP K "__init__" "Program.__init__" (mP 0) f fd) (pc : PC K C)
    (HF : Mcal P w K mg base C "head_fits" CX0 2 ["self", "at", "name", "takes", "has", "gives"] (spHf K C))
    (CE : Mcal P w K mg base C "check_ends" CX0 3 ["self"] (spCe K C))
    (CT : Cal P w K mg base "count_in" 2 ["body"] (spCount K)) (NE : Cal P w K mg base "nesting_of" 2 ["body"] (spNest K)) (BO : Cal P w K mg base "bodies_of" 1 ["statement"] (spBodies K))
    (PB : Cal P w K mg base "plain_body" 1 ["body"] (spBd0 K)) (LA : Cal P w K mg base "laid" 3 ["body", "first", "after"] (spLaid K))
    (FN : FnP K "numbered" sNum [] fN fdN) (gN : mg "numbered" = some (.ref fN)) (bN : Binds K fdN ["body", "first"] [])
    (gL : mg "len" = none) (gE : mg "enumerate" = none) (g4 : mg "PROCEDURES" = some (.int 4 tP)) (g14 : mg "STATEMENTS" = some (.int 14 tS)) (g3 : mg "NESTING" = some (.int 3 tN)) : FnOk P w K mg base (CX P w) 8 f fd ["self", "kinds", "procedures"] (spPi K C) := by
  refine F.ok sc_pi (fun vs H Q E h => ?_) (fun cdv A outer s H vs Q E hr h => ?_)
  · obtain ⟨x, dx, tb, pr, t, tk, hs, bo, rfl, _⟩ := h
    rfl
  · have hrm := fun j (h : j ≤ 7) => hr.mono (j := j) h
    obtain ⟨x, dx, tb, pr, t, tk, hs, bo, rfl, hx, hpr, ht, htk, hhs, hbo, k⟩ := h
    refine ⟨_, pss_cons (by
        exact ps_asg (pv 1) (pg_fld (pv 0))) <| pss_cons (by
        exact ps_asg pe_dnewK (pg_fld (pv 0))) <| pss_cons (by
        refine ps_if (pt_not (by
          exact pt_chain op_le op_le pe_int (pe_callB call_len_seq (by rfl) gL PySem.boot_len (pa_cons (pv 2) pa_nil)) (pe_glob (v := .int 4) (by rfl) g4 ⟨_, rfl⟩))) pss_no pss_nil) <| pss_cons (by
        refine ps_for (passes_of rfl) rfl (pi_enumS (by rfl) gE (pa_cons (pv 2) pa_nil)) (pg_tup rfl (pgs_cons (pg_name (i := 3) sc_pi.nd rfl (Or.inl rfl)) (pgs_cons (pg_tup rfl (pgs_cons (pg_name (i := 4) sc_pi.nd rfl (Or.inl rfl)) (pgs_cons (pg_name (i := 5) sc_pi.nd rfl (Or.inl rfl)) (pgs_cons (pg_name (i := 6) sc_pi.nd rfl (Or.inl rfl)) (pgs_cons (pg_name (i := 7) sc_pi.nd rfl (Or.inl rfl)) (pgs_cons (pg_name (i := 8) sc_pi.nd rfl (Or.inl rfl)) pgs_nil)))))) pgs_nil))) (pss_cons (by
          refine ps_if (pt_not (pt_val (by
            exact pe_meth (pv 0) pc.cls HF.m HF.G (hrm 2 (by decide)) HF.b .nil pass0 (pa_cons (pv 3) (pa_cons (pv 4) (pa_cons (pv 5) (pa_cons (pv 6) (pa_cons (pv 7) pa_nil)))))) (by intro _; rfl))) pss_no pss_nil) <| pss_one (by
          refine ps_dput (hu1 hr) (pe_fld (pv 0) rfl) (pv 4) (tv := tTup (tCons (lcPr K 5) (tCons (lcPr K 6) (tCons (tVar 7) tNil)))) (pe_tup (pa_cons (by
            exact pe_lc (own := [("one", 9), ("kind", 10)]) (g := gTup K 2 (gCons (gName 9) (gCons (gName 10) gNil))) (tt := tYes) (te := tTup (tCons (tVar 9) (tCons (tVar 10) tNil))) rfl sc_pi.nd (pi_list (pv 5)) (blkOk_by (by kernel_rfl)) (fun _ _ _ _ _ => pg_tup rfl (pgs_cons (pg_name (i := 9) sc_pi.nd rfl (Or.inl rfl)) (pgs_cons (pg_name (i := 10) sc_pi.nd rfl (Or.inl rfl)) pgs_nil))) (fun _ _ _ _ _ => pts_nil) (fun _ _ _ _ _ => by exact pe_tup (pa_cons (pv 9) (pa_cons (pv 10) pa_nil)))) (pa_cons (by
            exact pe_lc (own := [("one", 9), ("kind", 10)]) (g := gTup K 2 (gCons (gName 9) (gCons (gName 10) gNil))) (tt := tYes) (te := tTup (tCons (tVar 9) (tCons (tVar 10) tNil))) rfl sc_pi.nd (pi_list (pv 6)) (blkOk_by (by kernel_rfl)) (fun _ _ _ _ _ => pg_tup rfl (pgs_cons (pg_name (i := 9) sc_pi.nd rfl (Or.inl rfl)) (pgs_cons (pg_name (i := 10) sc_pi.nd rfl (Or.inl rfl)) pgs_nil))) (fun _ _ _ _ _ => pts_nil) (fun _ _ _ _ _ => by exact pe_tup (pa_cons (pv 9) (pa_cons (pv 10) pa_nil)))) (pa_cons (pv 7) pa_nil)))) rfl))) <| pss_cons (by
        refine ps_for (passes_of rfl) rfl (pi_enumS (by rfl) gE (pa_cons (pv 2) pa_nil)) (pg_tup rfl (pgs_cons (pg_name (i := 3) sc_pi.nd rfl (Or.inl rfl)) (pgs_cons (pg_name (i := 11) sc_pi.nd rfl (Or.inl rfl)) pgs_nil))) (pss_one (by
          refine ps_if (PW.pt (pw_or (by
            exact pt_cmpR op_gt (pe_call CT.G (hrm 2 (by decide)) (by rfl) CT.g CT.k CT.b .nil pass0 (pa_cons (pe_ix ix_tup (pv 11) pe_int (fun _ _ => rfl)) pa_nil)) (pe_glob (v := .int 14) (by rfl) g14 ⟨_, rfl⟩) (by rfl)) (pw_or1 (by
            exact pt_cmpR op_gt (pe_call NE.G (hrm 2 (by decide)) (by rfl) NE.g NE.k NE.b .nil pass0 (pa_cons (pe_ix ix_tup (pv 11) pe_int (fun _ _ => rfl)) pa_nil)) (pe_glob (v := .int 3) (by rfl) g3 ⟨_, rfl⟩) (by rfl))))) pss_no pss_nil))) <| pss_cons (by
        refine ps_for (passes_of rfl) rfl (pi_enumS (by rfl) gE (pa_cons (pv 2) pa_nil)) (pg_tup rfl (pgs_cons (pg_name (i := 3) sc_pi.nd rfl (Or.inl rfl)) (pgs_cons (pg_name (i := 11) sc_pi.nd rfl (Or.inl rfl)) pgs_nil))) (pss_one (by
          refine ps_forG (k := 2) (passes_of rfl) rfl FN gsc_num gnc_num (by rfl) gN bN (hrm 4 (by decide)) (pa_cons (pe_ix ix_tup (pv 11) pe_int (fun _ _ => rfl)) (pa_cons pe_int pa_nil)) (fun σ H Q h => ?_) (fun cdv gl own S hr => gb_num (k := 0) BO.G BO.g BO.k BO.b cdv gl own S hr) (pg_tup rfl (pgs_cons (pg_name (i := 12) sc_pi.nd rfl (Or.inl rfl)) (pgs_cons (pg_name (i := 13) sc_pi.nd rfl (Or.inl rfl)) pgs_nil))) (takes_of rfl rfl rfl rfl) (fun xe tk => pss_no)
          · obtain ⟨v, hv, p, xs, i, z, e1, e2, h1, h2, q⟩ := h
            exact ⟨v, hv, p, xs, i, z, e1, e2, h1, h2, rfl, q⟩))) <| pss_cons (by
        refine ps_asg (by
          exact pe_dc (own := [("row", 11)]) (g := gName 11) (tt := tYes) (tk := tOp (rIxT K) (tVar 11) (tC (.int 0))) (tv := tCall (spBd0 K) [] E0 (tCons (tOp (rIxT K) (tVar 11) (tC (.int 4))) tNil)) rfl sc_pi.nd (pi_list (pv 2)) (blkOk_by (by kernel_rfl)) (fun _ _ _ _ _ => pg_name (i := 11) sc_pi.nd rfl (Or.inl rfl)) (fun _ _ _ _ _ => pts_nil) (fun _ _ _ _ _ => by exact pe_ix ix_tup (pv 11) pe_int (fun _ _ => rfl))
            (fun _ _ _ _ _ => by exact pe_call PB.G (hrm 1 (by decide)) (by rfl) PB.g PB.k PB.b .nil pass0 (pa_cons (pe_ix ix_tup (pv 11) pe_int (fun _ _ => rfl)) pa_nil))) (pg_fld (pv 0))) <| pss_cons (by
        refine ps_asg (pe_lock (by
          exact pe_dc (own := [("name", 4), ("body", 8)]) (g := gTup K 2 (gCons (gName 4) (gCons (gName 8) gNil))) (tt := tYes) (tk := tVar 4) (tv := tCall (spLaid K) [] E0 (tCons (tVar 8) (tCons (tC (.int 0)) (tCons (tCall (spCount K) [] E0 (tCons (tVar 8) tNil)) tNil)))) rfl sc_pi.nd (pi_items (pe_fld (pv 0) rfl)) (blkOk_by (by kernel_rfl)) (fun _ _ _ _ _ => pg_tup rfl (pgs_cons (pg_name (i := 4) sc_pi.nd rfl (Or.inl rfl)) (pgs_cons (pg_name (i := 8) sc_pi.nd rfl (Or.inl rfl)) pgs_nil))) (fun _ _ _ _ _ => pts_nil) (fun _ _ _ _ _ => by exact pv 4)
            (fun _ _ _ _ _ => by exact pe_call LA.G (hrm 3 (by decide)) (by rfl) LA.g LA.k LA.b .nil pass0 (pa_cons (pv 8) (pa_cons pe_int (pa_cons (pe_call CT.G (hrm 2 (by decide)) (by rfl) CT.g CT.k CT.b .nil pass0 (pa_cons (pv 8) pa_nil)) pa_nil)))))) (pg_fld (pv 0))) <| pss_one (by
        exact ps_expr (pe_meth0 (pv 0) pc.cls CE.m CE.G (hrm 3 (by decide)) CE.b .nil pass0)), ?_⟩
    have G0 : ∃ G, G = del H x := ⟨_, rfl⟩
    obtain ⟨G, hGe⟩ := G0
    have hG : Ex G H := by rw [hGe]; exact ex_del
    have ry : Ry H G := by rw [hGe]; exact ry_del hx
    have gpr := ry.l hpr
    have gt := ry.t ht
    have gtk := ry.l htk
    have ghs := ry.l hhs
    have gbo := ry.t hbo
    have gx : G x = none := by rw [hGe]; exact del_same
    have gall : ∀ {H' : Hp}, Ex G H' → ∀ a o, a ≠ x → H a = some o → H' a = some o := fun e a o ha h => e a o (by rw [hGe, del_ne ha]; exact h)
    clear hGe
    refine ⟨.ref tb, rfl, .ref x, rfl, x, C, dx, [], rfl, hx, pc.cls, pc.table, (show (0 : Nat) < 1000 by decide), fun sg hsg => ?_⟩
    have hsx : sg ≠ x := fun z => by rw [z, upd_same] at hsg; cases hsg
    have gsg : G sg = none := by
      rw [upd_ne hsx] at hsg
      exact fresh_back hG hsg
    refine ⟨.ref x, rfl, x, C, dx, [("table", .ref tb)], rfl, (by rw [upd_ne (Ne.symm hsx), upd_same, putP1]), pc.cls, pc.signs, (show (1 : Nat) < 1000 by decide), ?_⟩
    rw [putP2]
    have e2 : Ex G (upd (upd (upd H x (.ins C dx (putF "table" (.ref tb) []))) sg (.dK [])) x (.ins C dx [("table", .ref tb), ("signs", .ref sg)])) := Ex.mut (Ex.mut (Ex.mut hG gx) gsg) gx
    have hx2 : (upd (upd (upd H x (.ins C dx (putF "table" (.ref tb) []))) sg (.dK [])) x (.ins C dx [("table", .ref tb), ("signs", .ref sg)])) x = some (.ins C dx [("table", .ref tb), ("signs", .ref sg)]) := upd_same
    have hs2 : (upd (upd (upd H x (.ins C dx (putF "table" (.ref tb) []))) sg (.dK [])) x (.ins C dx [("table", .ref tb), ("signs", .ref sg)])) sg = some (.dK []) := by rw [upd_ne hsx, upd_same]
    generalize upd (upd (upd H x (.ins C dx (putF "table" (.ref tb) []))) sg (.dK [])) x (.ins C dx [("table", .ref tb), ("signs", .ref sg)]) = H2 at e2 hx2 hs2 ⊢
    dsimp only
    refine q_no ?_ fun H3 e3 => ?_
    · exact et_is (et_not (et_test (et_chain (x := 1) (y := 1) (z := 4) ev_c (ev_lenQ (xs := [.ref t]) (ev_var rfl) (.inl (ex_l e2 gpr))) ev_c (by decide) (by decide)))) rfl
    refine s_forW (H0 := G) (n := 1) (ew_enum (xs := [.ref t]) (ea_cons (ev_var rfl) ea_nil) (.inl gpr)) (e2.trans e3) (fun i σ' H' => ∃ p3 p4 p5 p6 p7 p8 p9 p10 p11 p12 p13 sgs, σ' = [some (.ref x), some (.ref tb), some (.ref pr), p3, p4, p5, p6, p7, p8, p9, p10, p11, p12, p13] ∧ Ex G H' ∧ H' x = some (.ins C dx [("table", .ref tb), ("signs", .ref sg)]) ∧ H' sg = some (.dK sgs) ∧ (i = 0 → sgs = [])) ?_ (fun i σ' H' _ z => ?_) ?_ ?_
    · intro H4 e4
      exact ⟨_, _, _, _, _, _, _, _, _, _, _, [], rfl, (e2.trans e3).trans e4, e4 x _ (e3 x _ hx2), e4 sg _ (e3 sg _ hs2), fun _ => rfl⟩
    · obtain ⟨_, _, _, _, _, _, _, _, _, _, _, _, _, z, _⟩ := z
      exact z
    · rintro i x1 σ' H4 H5 hi ⟨p3, p4, p5, p6, p7, p8, p9, p10, p11, p12, p13, sgs, rfl, e4, hx4, hs4, hsg4⟩ ⟨TT, v5, x6, rfl, hT, rfl, h5, h6⟩
      have hi0 : i = 0 := by omega
      subst hi0
      have hsg0 := hsg4 rfl
      subst hsg0
      have h5 : V.int ((0 : Nat) : Int) = v5 := Option.some.inj h5
      subst h5
      have h6 : V.ref t = x6 := Option.some.inj h6
      subst h6
      have eT : Ex H4 (upd H4 TT (.tup [.int ((0 : Nat) : Int), .ref t])) := Ex.new hT
      have e5 := e4.trans eT
      refine g_five (st_of upd_same) (ex_t e5 gt) ?_
      have hx5 := eT x _ hx4
      have hs5 := eT sg _ hs4
      generalize upd H4 TT (.tup [.int ((0 : Nat) : Int), .ref t]) = H5 at eT e5 hx5 hs5 ⊢
      refine q_no (et_is (et_not (et_B (ev_meth (z := .bl true) (ev_var rfl) hx5 rfl (ea_cons (ev_var rfl) (ea_cons (ev_var rfl) (ea_cons (ev_var rfl) (ea_cons (ev_var rfl) (ea_cons (ev_var rfl) ea_nil))))) (RetV.call fun H6 e6 Q E q => ⟨x, tk, hs, dx, _, sg, rfl, e6 x _ hx5, rfl, e6 sg _ hs5, ex_l (e5.trans e6) gtk, ex_l (e5.trans e6) ghs, q⟩)))) rfl) fun H6 e6 => ?_
      refine s_dputT (G := G) (k := .inr "m") (Pp := fun _ _ => True) (fun H7 e7 Q q => ?_) (e5.trans e6) (fun H7 e7 => ev_fld (ev_var rfl) ((e6.trans e7) x _ hx5) pc.cls pc.signs rfl) (fun H7 e7 => ev_var rfl) (e6 sg _ hs5) (by decide) fun Tg H7 hTg e7 hz => ?_
      · unfold tTup tCons
        refine (el_lcV0 (ev_var (v := .ref tk) rfl) gtk : EvL (lcPr K 5) _ G []) H7 e7 _ fun q1 H8 n1 e8 h8 => ?_
        refine (el_lcV0 (ev_var (v := .ref hs) rfl) ghs : EvL (lcPr K 6) _ G []) H8 (e7.trans e8) _ fun q2 H9 n2 e9 h9 => ⟨_, rfl, sz_of (n := 3) (by decide), fun T hT => q T _ (fresh_back (e8.trans e9) hT) ((e8.trans e9).trans (Ex.new hT)) fun _ _ => trivial⟩
      · have exm : Ex G (upd H7 sg (.dK (putK [] (.inr "m") (.ref Tg)))) := Ex.mut ((e5.trans e6).trans e7) gsg
        refine ⟨_, _, _, _, _, _, _, _, _, _, _, putK [] (.inr "m") (.ref Tg), rfl, exm, ?_, upd_same, fun z => (nomatch z)⟩
        rw [upd_ne (Ne.symm hsx)]
        exact e7 x _ (e6 x _ hx5)
    · rintro σ' H4 ⟨p3, p4, p5, p6, p7, p8, p9, p10, p11, p12, p13, sgs, rfl, e4, hx4, hs4, _⟩
      have flat : FlatB K G bo [] := ⟨.inr gbo, Nat.zero_le _, fun y hy => absurd hy List.not_mem_nil⟩
      have row : ∀ {H' : Hp} {σ : L2.St}, Ex G H' → σ[11]? = some (some (.ref t)) → Ev (tOp (rIxT K) (tVar 11) (tC (.int 4))) σ H' (.ref bo) := fun e z => ev_ixT (i := 4) (ev_var z) ev_c (ex_t e gt) (at_of (j := 4) rfl rfl)
      refine s_forW (H0 := H4) (n := 1) (ew_enum (xs := [.ref t]) (ea_cons (ev_var rfl) ea_nil) (.inl (ex_l e4 gpr))) (Ex.refl _) (fun i σ' H' => ∃ p3 p4 p5 p6 p7 p8 p9 p10 p11 p12 p13, σ' = [some (.ref x), some (.ref tb), some (.ref pr), p3, p4, p5, p6, p7, p8, p9, p10, p11, p12, p13] ∧ Ex H4 H') ?_ (fun i σ' H' _ z => ?_) ?_ ?_
      · intro H5 e5
        exact ⟨_, _, _, _, _, _, _, _, _, _, _, rfl, e5⟩
      · obtain ⟨_, _, _, _, _, _, _, _, _, _, _, _, z⟩ := z
        exact z
      · rintro i x1 σ' H5 H6 hi ⟨p3, p4, p5, p6, p7, p8, p9, p10, p11, p12, p13, rfl, e5⟩ ⟨TT, v5, x6, rfl, hT, rfl, h5, h6⟩
        have hi0 : i = 0 := by omega
        subst hi0
        have h6 : V.ref t = x6 := Option.some.inj h6
        subst h6
        have eT : Ex H5 (upd H5 TT (.tup [v5, .ref t])) := Ex.new hT
        have e6 := e5.trans eT
        refine g_two (st_of upd_same) ?_
        generalize upd H5 TT (.tup [v5, .ref t]) = H6 at eT e6 ⊢
        refine s_when (b := false) (et_is (et_or (a := false) (b := false) (et_test (ev_is (ev_op (x := .int ((0 : Nat) : Int)) (y := .int 14) (ev_call (ea_cons (row (e4.trans e6) rfl) ea_nil) (RetV.call fun H7 e7 Q E q => ⟨bo, [], rfl, flat.same ((e4.trans e6).trans e7), q⟩)) ev_c rv_I0) rfl)) fun _ => et_test (ev_is (ev_op (x := .int 1) (y := .int 3) (ev_call (ea_cons (row (e4.trans e6) rfl) ea_nil) (RetV.call fun H7 e7 Q E q => ⟨bo, [], rfl, flat.same ((e4.trans e6).trans e7), q⟩)) ev_c rv_I0) rfl)) rfl) (fun z => (nomatch z)) fun _ H7 e7 => ⟨_, _, _, _, _, _, _, _, _, _, _, rfl, e6.trans e7⟩
      · rintro σ' H5 ⟨p3, p4, p5, p6, p7, p8, p9, p10, p11, p12, p13, rfl, e5⟩
        refine s_forW (H0 := H4) (n := 1) (ew_enum (xs := [.ref t]) (ea_cons (ev_var rfl) ea_nil) (.inl (ex_l e4 gpr))) e5 (fun i σ' H' => ∃ p3 p4 p5 p6 p7 p8 p9 p10 p11 p12 p13, σ' = [some (.ref x), some (.ref tb), some (.ref pr), p3, p4, p5, p6, p7, p8, p9, p10, p11, p12, p13] ∧ Ex H4 H') ?_ (fun i σ' H' _ z => ?_) ?_ ?_
        · intro H6 e6
          exact ⟨_, _, _, _, _, _, _, _, _, _, _, rfl, e5.trans e6⟩
        · obtain ⟨_, _, _, _, _, _, _, _, _, _, _, _, z⟩ := z
          exact z
        · rintro i x1 σ' H6 H7 hi ⟨p3, p4, p5, p6, p7, p8, p9, p10, p11, p12, p13, rfl, e6⟩ ⟨TT, v5, x6, rfl, hT, rfl, h5, h6⟩
          have hi0 : i = 0 := by omega
          subst hi0
          have h6 : V.ref t = x6 := Option.some.inj h6
          subst h6
          have eT : Ex H6 (upd H6 TT (.tup [v5, .ref t])) := Ex.new hT
          have e7 := e6.trans eT
          refine g_two (st_of upd_same) ?_
          generalize upd H6 TT (.tup [v5, .ref t]) = H7 at eT e7 ⊢
          refine s_forNum (a := bo) (xs := []) (ea_cons (ev_ixT (i := 4) (ev_var rfl) ev_c (ex_t (e4.trans e7) gt) (at_of (j := 4) rfl rfl)) (ea_cons ev_c ea_nil)) (flat.same (e4.trans e7)) (fun j σ' H' => ∃ p3 p4 p5 p6 p7 p8 p9 p10 p11 p12 p13, σ' = [some (.ref x), some (.ref tb), some (.ref pr), p3, p4, p5, p6, p7, p8, p9, p10, p11, p12, p13] ∧ Ex H7 H') ?_ (fun j σ' H' z => ?_) ?_ ?_
          · intro H8 e8
            exact ⟨_, _, _, _, _, _, _, _, _, _, _, rfl, e8⟩
          · obtain ⟨_, _, _, _, _, _, _, _, _, _, _, _, z⟩ := z
            exact z
          · rintro j y σ' H8 pp H9 N hy
            simp at hy
          · rintro σ' H8 H9 ⟨q3, q4, q5, q6, q7, q8, q9, q10, q11, q12, q13, rfl, e8⟩ e9
            exact ⟨_, _, _, _, _, _, _, _, _, _, _, rfl, e7.trans (e8.trans e9)⟩
        · rintro σ' H6 ⟨p3, p4, p5, p6, p7, p8, p9, p10, p11, p12, p13, rfl, e6⟩
          have e6G : Ex G H6 := e4.trans e6
          have hx6 := e6 x _ hx4
          have hs6 := e6 sg _ hs4
          have row6 : ∀ {H' : Hp} {σ : L2.St}, Ex G H' → σ[11]? = some (some (.ref t)) → Ev (tOp (rIxT K) (tVar 11) (tC (.int 4))) σ H' (.ref bo) := row
          have D7 : EvD (tDc (iList K (tVar 2)) (gName 11) tYes (tOp (rIxT K) (tVar 11) (tC (.int 0))) (tCall (spBd0 K) [] E0 (tCons (tOp (rIxT K) (tVar 11) (tC (.int 4))) tNil)) [11]) [some (V.ref x), some (.ref tb), some (.ref pr), p3, p4, p5, p6, p7, p8, p9, p10, p11, p12, p13] H6 G 1 (fun _ => .inr "m") (fun i v H' => ∃ b', v = .ref b' ∧ H' b' = some (.tup [])) := by
            refine ed_dc (n := 1) (Y := YAt [.ref t]) (fun i j hi hj h => by omega) e6G (ew_list (xs := [.ref t]) (ev_var rfl) (ex_l e6G gpr)) (by decide) fun i y H1 H2 hi e yy => ?_
            obtain ⟨rfl, hy⟩ := yy
            have hi0 : i = 0 := by omega
            subst hi0
            have hy : V.ref t = y := Option.some.inj hy
            subst hy
            refine ⟨Ex.refl _, fun Q q => q _ H2 (Ex.refl _) rfl (fun H8 e8 => ?_) fun H8 e8 Q2 q2 => ?_⟩
            · exact ev_ixT (i := 0) (v := .str "m") (ev_var rfl) ev_c (ex_t (e6G.trans (e.trans e8)) gt) (at_of (j := 0) rfl rfl)
            · refine (ea_cons (row6 (e6G.trans (e.trans e8)) rfl) ea_nil) H8 (Ex.refl _) _ fun H9 e9 => ⟨bo, rfl, .inr (ex_t (e6G.trans (e.trans (e8.trans e9))) gbo), fun p' H10 hp' e10 h10 => q2 (.ref p') H10 (e9.trans e10) fun H11 k11 => ⟨p', rfl, k11.new p' _ (fresh_back (e8.trans e9) hp') h10⟩⟩
          dsimp only
          refine q_asgW ?_
          refine D7 H6 (Ex.refl _) _ fun dT ysT H7 hdT e7 h7 z7 => ?_
          refine ⟨.ref x, rfl, x, C, dx, [("table", .ref tb), ("signs", .ref sg)], rfl, e7 x _ hx6, pc.cls, pc.texts, (show (2 : Nat) < 1000 by decide), ?_⟩
          rw [putP3]
          have hdx : dT ≠ x := fun z => by rw [z, hx6] at hdT; cases hdT
          have GT : ∃ G2, G2 = del (del H7 x) dT := ⟨_, rfl⟩
          obtain ⟨G2, hG2⟩ := GT
          have g2at : ∀ a, a ≠ x → a ≠ dT → G2 a = H7 a := fun a h1 h2 => by rw [hG2, del_ne h2, del_ne h1]
          have g2x : G2 x = none := by rw [hG2, del_ne (Ne.symm hdx), del_same]
          have g2d : G2 dT = none := by rw [hG2, del_same]
          have eG2 : Ex G G2 := fun a o ha => by
            rw [g2at a (fun z => by rw [z, gx] at ha; cases ha) (fun z => by rw [z, fresh_back e6G hdT] at ha; cases ha)]
            exact (e6G.trans e7) a o ha
          obtain ⟨v0, hysT, b0, hv0, hb0⟩ := els1 (z7 G2 eG2 fun a o ha n h => by
            rw [g2at a (fun z => by rw [z, hx6] at n; cases n) ha]
            exact h)
          subst hv0 hysT
          clear hG2 z7 D7
          have ex8 : Ex G2 (upd H7 x (.ins C dx [("table", .ref tb), ("signs", .ref sg), ("texts", .ref dT)])) := fun a o ha => by
            have h1 : a ≠ x := fun z => by rw [z, g2x] at ha; cases ha
            have h2 : a ≠ dT := fun z => by rw [z, g2d] at ha; cases ha
            rw [upd_ne h1, ← g2at a h1 h2]
            exact ha
          have hx8 : (upd H7 x (.ins C dx [("table", .ref tb), ("signs", .ref sg), ("texts", .ref dT)])) x = some (.ins C dx [("table", .ref tb), ("signs", .ref sg), ("texts", .ref dT)]) := upd_same
          have hd8 : (upd H7 x (.ins C dx [("table", .ref tb), ("signs", .ref sg), ("texts", .ref dT)])) dT = some (.dK (zipD (fun _ => Sum.inr "m") [V.ref b0] 1)) := by
            rw [upd_ne hdx]
            exact h7
          generalize upd H7 x (.ins C dx [("table", .ref tb), ("signs", .ref sg), ("texts", .ref dT)]) = H8 at ex8 hx8 hd8 ⊢
          refine q_asgW ⟨dT, _, hd8, trivial, fun od => ?_⟩
          have exw : Ex G2 (upd H8 dT (.frz od (.dK (zipD (fun _ => Sum.inr "m") [V.ref b0] 1)))) := Ex.mut ex8 g2d
          have hxw : (upd H8 dT (.frz od (.dK (zipD (fun _ => Sum.inr "m") [V.ref b0] 1)))) x = some (.ins C dx [("table", .ref tb), ("signs", .ref sg), ("texts", .ref dT)]) := by rw [upd_ne (Ne.symm hdx)]; exact hx8
          have hdw : (upd H8 dT (.frz od (.dK (zipD (fun _ => Sum.inr "m") [V.ref b0] 1)))) dT = some (.frz od (.dK (zipD (fun _ => Sum.inr "m") [V.ref b0] 1))) := upd_same
          clear hd8 hx8 ex8
          generalize upd H8 dT (.frz od (.dK (zipD (fun _ => Sum.inr "m") [V.ref b0] 1))) = Hw at exw hxw hdw ⊢
          have flat2 : FlatB K G2 b0 [] := ⟨.inr (st_of hb0), Nat.zero_le _, fun y hy => absurd hy List.not_mem_nil⟩
          have D8 : EvD (tDc (iItems (tFld K (tVar 0) "texts")) (gTup K 2 (gCons (gName 4) (gCons (gName 8) gNil))) tYes (tVar 4) (tCall (spLaid K) [] E0 (tCons (tVar 8) (tCons (tC (.int 0)) (tCons (tCall (spCount K) [] E0 (tCons (tVar 8) tNil)) tNil)))) [4, 8]) [some (V.ref x), some (.ref tb), some (.ref pr), p3, p4, p5, p6, p7, p8, p9, p10, p11, p12, p13] Hw G2 1 (fun _ => .inr "m") (fun i v H' => ∃ r, v = .ref r ∧ H' r = some (.lst [])) := by
            refine ed_dc (n := 1) (Y := YPair (fun i => (zipD (fun _ => Sum.inr "m") [V.ref b0] 1)[i]?.map fun kv => kV kv.1) fun i => (zipD (fun _ => Sum.inr "m") [V.ref b0] 1)[i]?.map Prod.snd) (fun i j hi hj h => by omega) exw ⟨Iti dT od _, fun H1 => H1 dT = _, walk_items, fun H1 e => e dT _ hdw, fun H1 e R q => ev_fld (v := .ref dT) (ev_var rfl) hxw pc.cls pc.texts rfl H1 e _ fun H2 e2 => ⟨dT, od, _, rfl, (e.trans e2) dT _ hdw, q H2 e2⟩⟩ (by decide) fun i y H1 H2 hi e yy => ?_
            have hi0 : i = 0 := by omega
            subst hi0
            obtain ⟨TT, x5, x6, rfl, hT, rfl, y5, y6⟩ := yy
            have y5 : V.str "m" = x5 := Option.some.inj y5
            have y6 : V.ref b0 = x6 := Option.some.inj y6
            subst y5 y6
            have eT : Ex H1 (upd H1 TT (.tup [.str "m", .ref b0])) := Ex.new hT
            refine ⟨eT, fun Q q => g_two (st_of upd_same) (q _ _ (Ex.refl _) rfl (fun H8 e8 => ?_) fun H8 e8 Q2 q2 => ?_)⟩
            · exact ev_var rfl
            · have e08 := exw.trans (e.trans (eT.trans e8))
              refine (ea_cons (ev_var (v := .ref b0) rfl) (ea_cons (ev_c (v := .int 0)) (ea_cons (ev_call (z := .int (([] : List V).length : Int)) (ea_cons (ev_var (v := .ref b0) rfl) ea_nil) (RetV.call fun H9 e9 Q E q => ⟨b0, [], rfl, flat2.same (e08.trans e9), q⟩)) ea_nil))) H8 (Ex.refl _) _ fun H9 e9 => ⟨b0, [], G2, rfl, e08.trans e9, flat2, fun p' ys' H10 hp' e10 h10 z => q2 (.ref p') H10 (e9.trans e10) fun H11 k11 => ⟨p', rfl, ?_⟩⟩
              have hrl := z H11 (k11.part (eT.trans (e8.trans e9)) (Ex.refl _))
              have hnil : ys' = [] := List.eq_nil_of_length_eq_zero hrl.1
              rw [← hnil]
              exact k11.new p' _ (fresh_back (eT.trans (e8.trans e9)) hp') h10
          refine D8 Hw (Ex.refl _) _ fun c ysC H9 hc9 e9 h9 z9 => ⟨e9 dT _ hdw, .ref x, rfl, x, C, dx, [("table", .ref tb), ("signs", .ref sg), ("texts", .ref dT)], rfl, (by rw [upd_ne (Ne.symm hdx)]; exact e9 x _ hxw), pc.cls, pc.code, (show (3 : Nat) < 1000 by decide), ?_⟩
          rw [putP4]
          have hcx : c ≠ x := fun z => by rw [z, hxw] at hc9; cases hc9
          have hcd : c ≠ dT := fun z => by rw [z, hdw] at hc9; cases hc9
          have hx10 : (upd (upd H9 dT (.dK (zipD (fun _ => Sum.inr "m") [V.ref b0] 1))) x (.ins C dx [("table", .ref tb), ("signs", .ref sg), ("texts", .ref dT), ("code", .ref c)])) x = some (.ins C dx [("table", .ref tb), ("signs", .ref sg), ("texts", .ref dT), ("code", .ref c)]) := upd_same
          have k10 : ∀ a o, a ≠ x → a ≠ dT → H9 a = some o → (upd (upd H9 dT (.dK (zipD (fun _ => Sum.inr "m") [V.ref b0] 1))) x (.ins C dx [("table", .ref tb), ("signs", .ref sg), ("texts", .ref dT), ("code", .ref c)])) a = some o := fun a o h1 h2 h => by
            rw [upd_ne h1, upd_ne h2]
            exact h
          generalize upd (upd H9 dT (.dK (zipD (fun _ => Sum.inr "m") [V.ref b0] 1))) x (.ins C dx [("table", .ref tb), ("signs", .ref sg), ("texts", .ref dT), ("code", .ref c)]) = H10 at hx10 k10 ⊢
          have ex10 : Ex G2 H10 := fun a o ha => k10 a o (fun z => by rw [z, g2x] at ha; cases ha) (fun z => by rw [z, g2d] at ha; cases ha) ((exw.trans e9) a o ha)
          obtain ⟨w0, hysC, r0, hw0, hr0⟩ := els1 (z9 H10 ex10 fun a o ha n h => k10 a o (fun z => by rw [z, hxw] at n; cases n) (fun z => by rw [z, hdw] at n; cases n) h)
          subst hw0 hysC
          have hc10 := k10 c _ hcx hcd h9
          refine ⟨.ref x, rfl, x, dx, _, rfl, hx10, rfl, x, c, r0, dx, _, rfl, hx10, rfl, ⟨hc10, (by simp), (show (1 : Nat) ≤ 10 by decide), fun e he => ?_⟩, hr0, fun H11 e11 => k H11 fun a o ha h => ?_⟩
          · obtain rfl := List.mem_singleton.mp he
            exact ⟨[], [], sq_of hr0, ⟨rfl, fun i x y h => by simp at h⟩, rfl, rfl, Nat.zero_le _⟩
          · have hGa : G a = some o := by
              cases hg : G a with
              | some o' =>
                have := hG a o' hg
                rw [h] at this
                exact this.symm
              | none =>
                have := gall (Ex.refl G) a o ha h
                rw [hg] at this
                cases this
            exact e11 a o (ex10 a o (eG2 a o hGa))
end
end Cp

/-! a, *b = a list; *a, b = a list. -/
namespace GN
open PySem PySem.Spec PySem.Calls PyProof.Rows PySem.W
section
variable {prog : Program} {w : World} {A : Around} {E : Value → Shared → Prop} {s : Shared}
theorem unpack_starL {l : Addr} {items : Array Value} {n i : Nat} {first mids lasts : List Value} {Q : List Value → Shared → Prop} (hl : s.heap.IsList l items) (hh : A.handled = none) (hi : i < n) (hn : n ≤ items.size + 1) (hz : items.size ≤ 16384)
    (h1 : items.toList.take i = first) (h2 : (items.toList.drop i).take (items.size + 1 - n) = mids) (h3 : (items.toList.drop i).drop (items.size + 1 - n) = lasts)
    (h : ∀ h' tk, (∀ b o, s.heap.get? b = some o → h'.get? b = some o) → wpAny (model prog w) A (newList mids) (fun d => Q (first ++ [d] ++ lasts)) E { s with heap := h', toks := tk }) : wpAny (model prog w) A (unpackItems (.ref l) n (some i)) Q E s := by
  subst h1 h2 h3
  have hlt : l ≠ s.heap.objs.size := let ⟨o, ho, _⟩ := hl; Nat.ne_of_lt (Heap.lt_size ho)
  unfold unpackItems
  refine wpAny_bind ?_
  unfold notIterableAtAll
  refine wpAny_bind (wpAny_specialOf hl.typeIs slot_list_iter.lookup (wpAny_pure ?_))
  simp only [Bool.false_eq_true, if_false]
  refine wpAny_bind (wpAny_holding (wpAny_pyIter_list hl ?_))
  refine wpAny_bind (wpAny_holding (kun_draw hlt i 0 _ _ ⟨_, Heap.get?_push_size _ rfl, rfl, rfl⟩ (hl.push _) (by omega) fun h₁ hit₁ hs₁ => ?_))
  have hl₁ : h₁.IsList l items := (hl.push _).extBut hs₁.extBut hlt
  rw [Nat.zero_add] at hit₁
  obtain ⟨oi, hoi, _⟩ := id hit₁
  obtain ⟨ol, hol, _⟩ := id hl₁
  rw [List.drop_zero]
  have hfl : (items.toList.take i).length = i := by rw [List.length_take, Array.length_toList]; omega
  rw [if_neg (show ¬ ((items.toList.take i).length < i) by rw [hfl]; omega)]
  refine wpAny_bind (wpAny_holding (kun_collect (s := { s with heap := h₁ }) (T := "list_iterator") (.inr (.inr (.inl rfl))) (Walks.list (A := A.in1) hh s.heap.objs.size l hlt items) (fun j u st => st.1.typeIs) (k := i) (by omega) ⟨hit₁, hl₁⟩ (Heap.lt_size hoi) (Heap.lt_size hol) (fun h₂ tk hk => ?_) (by rw [sizeLine_eq]; omega)))
  have hrl : (items.toList.drop i).length = items.size - i := by rw [List.length_drop, Array.length_toList]
  have hmid : (items.toList.drop i).length - (n - 1 - i) = items.size + 1 - n := by rw [hrl]; omega
  show wpAny _ _ (if (items.toList.drop i).length < n - 1 - i then _ else _) _ _ _
  rw [if_neg (by rw [hrl]; omega)]
  show wpAny _ _ (newList ((items.toList.drop i).take ((items.toList.drop i).length - (n - 1 - i))) >>= fun d => pure (items.toList.take i ++ [d] ++ (items.toList.drop i).drop ((items.toList.drop i).length - (n - 1 - i)))) _ _ _
  rw [hmid]
  have he : ∀ b o, s.heap.get? b = some o → h₂.get? b = some o := fun b o e => by
    have hb : b ≠ s.heap.objs.size := Nat.ne_of_lt (Heap.lt_size e)
    exact hk b o hb (hs₁.extBut b o hb (Heap.get?_push_of_some _ e))
  exact wpAny_bind (wpAny_mono (h h₂ tk he) (fun d s' q => wpAny_pure q) fun _ _ z => z)
end
open L2 in
/-- a, *b = l: a in slot i, the rest as a new list in slot j -/
def gStarL (K : PySem.W.Frag) (i j : Nat) : L2.TG := fun v σ H Q => ∃ a x xs, v = .ref a ∧ SqL K H a (x :: xs) ∧ xs.length ≤ 1000 ∧ ∀ p, H p = none → Q ((σ.set i (some x)).set j (some (.ref p))) (upd H p (.lst xs))
open L2 in
theorem pg_starL {X : Cx} {x1 x2 : Str} {p1 p2 p3 pos : Pos} {kk i j : Nat} (hc : X.calm = true) (hN : X.N.Nodup) (hi : X.N[i]? = some x1) (hj : X.N[j]? = some x2) (l1 : Loc X.env.scope x1) (l2 : Loc X.env.scope x2) (f1 : X.fn x1 = true ∨ X.env.scope.names.lookup x1 = some .local) (f2 : X.fn x2 = true ∨ X.env.scope.names.lookup x2 = some .local)
    (ha : ∀ v1 v2, assignInOrder ((assignEach [.Name x1 p1, .Starred (.Name x2 p2) p3] X.env).map (·.2)) [v1, v2] = assignInOrder ((assignEach [.Name x1 p1, .Name x2 p2] X.env).map (·.2)) [v1, v2] := by intro _ _; rfl)
    (hn : (assignEach [.Name x1 p1, .Starred (.Name x2 p2) p3] X.env).length = 2 := by rfl) (hst : (assignEach [.Name x1 p1, .Starred (.Name x2 p2) p3] X.env).findIdx? (·.1) = some 1 := by rfl) : PG X (.Tuple [.Name x1 p1, .Starred (.Name x2 p2) p3] kk pos) (gStarL X.K i j) := by
  refine ⟨fun pins s σ H v u Q I r hw => ?_⟩
  obtain ⟨a, x, xs, rfl, hq, hl, q⟩ := hw
  obtain rfl : u = Value.ref a := r
  obtain ⟨its, rv, p, hz⟩ := I.list hq
  cases rv with
  | cons rx rr =>
    rename_i ux ur
    rw [assign_Tuple]
    refine wpAny_bind (wpAny_standAt ?_)
    unfold unpack
    rw [hn, hst]
    have lr := rr.length
    refine wpAny_bind (wpAny_holding (unpack_starL (l := a) (n := 2) (i := 1) (items := (ux :: ur).toArray) (first := [ux]) (mids := ur) (lasts := []) p.isList (I.ok.hd hc) (by decide) (by simp) (by simp; omega) rfl (by simp) (by simp) fun h' tk hk => ?_))
    have I1 : Inv X pins σ H { s with heap := h', toks := tk } := I.kept hk
    have hsz : (ur.length : Nat) ≤ sizeLine := by rw [← lr]; exact Nat.le_trans hl (by decide)
    refine wpAny_newList ?_ hsz
    have hq2 := q h'.objs.size (I1.hok.fresh (Nat.le_refl _))
    have I2 : Inv X pins σ (upd H h'.objs.size (.lst xs)) { s with heap := h'.push { cls := .type "list", data := .seq ur.toArray }, toks := tk } := I1.laid (t' := tk) (fun b o e => Heap.get?_push_of_some _ e) (Nat.le_refl _) ⟨by rw [lr]; exact hsz, ur, 0, rr, Heap.get?_push_size _ rfl⟩
    show wpAny _ _ (assignInOrder _ [ux, .ref h'.objs.size]) _ _ _
    rw [ha]
    exact (pgs_cons (X := X) (pg_name hN hi l1 f1) (pgs_cons (pg_name hN hj l2 f2) pgs_nil)).run pins _ σ _ [x, .ref h'.objs.size] _ Q I2 (.cons rx (.cons rfl .nil)) ⟨x, _, rfl, .ref h'.objs.size, _, rfl, rfl, hq2⟩
open L2 in
theorem vals_last {x : V} : ∀ {xs : List V} {us : List Value}, Vals (xs ++ [x]) us → ∃ u r, us = r ++ [u] ∧ Vals xs r ∧ RelV x u
  | [], _, .cons rx .nil => ⟨_, [], rfl, .nil, rx⟩
  | _ :: _, _, .cons ry rr => by
    obtain ⟨u, r, e, h1, h2⟩ := vals_last rr
    exact ⟨u, _ :: r, by rw [e]; rfl, .cons ry h1, h2⟩
open L2 in
/-- *a, b = l: a new list in slot i, the last in slot j -/
def gStarF (K : PySem.W.Frag) (i j : Nat) : L2.TG := fun v σ H Q => ∃ a x xs, v = .ref a ∧ SqL K H a (xs ++ [x]) ∧ xs.length ≤ 1000 ∧ ∀ p, H p = none → Q ((σ.set i (some (.ref p))).set j (some x)) (upd H p (.lst xs))
open L2 in
theorem pg_starF {X : Cx} {x1 x2 : Str} {p1 p2 p3 pos : Pos} {kk i j : Nat} (hc : X.calm = true) (hN : X.N.Nodup) (hi : X.N[i]? = some x1) (hj : X.N[j]? = some x2) (l1 : Loc X.env.scope x1) (l2 : Loc X.env.scope x2) (f1 : X.fn x1 = true ∨ X.env.scope.names.lookup x1 = some .local) (f2 : X.fn x2 = true ∨ X.env.scope.names.lookup x2 = some .local)
    (ha : ∀ v1 v2, assignInOrder ((assignEach [.Starred (.Name x1 p1) p3, .Name x2 p2] X.env).map (·.2)) [v1, v2] = assignInOrder ((assignEach [.Name x1 p1, .Name x2 p2] X.env).map (·.2)) [v1, v2] := by intro _ _; rfl)
    (hn : (assignEach [.Starred (.Name x1 p1) p3, .Name x2 p2] X.env).length = 2 := by rfl) (hst : (assignEach [.Starred (.Name x1 p1) p3, .Name x2 p2] X.env).findIdx? (·.1) = some 0 := by rfl) : PG X (.Tuple [.Starred (.Name x1 p1) p3, .Name x2 p2] kk pos) (gStarF X.K i j) := by
  refine ⟨fun pins s σ H v u Q I r hw => ?_⟩
  obtain ⟨a, x, xs, rfl, hq, hl, q⟩ := hw
  obtain rfl : u = Value.ref a := r
  obtain ⟨its, rv, p, hz⟩ := I.list hq
  obtain ⟨ux, ur, rfl, rr, rx⟩ := vals_last rv
  rw [assign_Tuple]
  refine wpAny_bind (wpAny_standAt ?_)
  unfold unpack
  rw [hn, hst]
  have lr := rr.length
  have hsize : (ur ++ [ux]).toArray.size = ur.length + 1 := by simp
  refine wpAny_bind (wpAny_holding (unpack_starL (l := a) (n := 2) (i := 0) (items := (ur ++ [ux]).toArray) (first := []) (mids := ur) (lasts := [ux]) p.isList (I.ok.hd hc) (by decide) (by omega) (by omega) rfl (by rw [hsize]; simp) (by rw [hsize]; simp) fun h' tk hk => ?_))
  have I1 : Inv X pins σ H { s with heap := h', toks := tk } := I.kept hk
  have hsz : (ur.length : Nat) ≤ sizeLine := by rw [← lr]; exact Nat.le_trans hl (by decide)
  refine wpAny_newList ?_ hsz
  have hq2 := q h'.objs.size (I1.hok.fresh (Nat.le_refl _))
  have I2 : Inv X pins σ (upd H h'.objs.size (.lst xs)) { s with heap := h'.push { cls := .type "list", data := .seq ur.toArray }, toks := tk } := I1.laid (t' := tk) (fun b o e => Heap.get?_push_of_some _ e) (Nat.le_refl _) ⟨by rw [lr]; exact hsz, ur, 0, rr, Heap.get?_push_size _ rfl⟩
  show wpAny _ _ (assignInOrder _ [.ref h'.objs.size, ux]) _ _ _
  rw [ha]
  exact (pgs_cons (X := X) (pg_name hN hi l1 f1) (pgs_cons (pg_name hN hj l2 f2) pgs_nil)).run pins _ σ _ [.ref h'.objs.size, x] _ Q I2 (.cons rfl (.cons rx .nil)) ⟨.ref h'.objs.size, _, rfl, x, _, rfl, rfl, hq2⟩
end GN

namespace Cp
open PySem PySem.Spec PyProof.Rows L2 Evl GN GZ
/-! the reader of a program's text -/
abbrev mR (j : Nat) : Stmt := inClass (top 89) j
structure RC (K : PySem.W.Frag) (C : Addr) : Prop where
  cls : Cls K C
  lines : NoAttr K C "lines"
  at_ : NoAttr K C "at"
  inside : NoAttr K C "inside"
def rdO (C dx L : Addr) (i : Nat) : HO := .ins C dx [("lines", .ref L), ("at", .int (i : Nat)), ("inside", .int 0)]
theorem sc_ri : FnScope ["self", "rows"] ["self", "rows"] (defScope (mR 0)) := ⟨rfl, rfl, rfl, by decide +kernel, rfl, by decide +kernel, by decide +kernel⟩
def spRi (C : Addr) : Sp := fun vs H Q _ => ∃ x dx L, vs = [.ref x, .ref L] ∧ H x = some (.ins C dx []) ∧ ∀ H2, H2 x = some (rdO C dx L 0) → (∀ a o, a ≠ x → H a = some o → H2 a = some o) → Q .non H2
theorem sc_fw : FnScope ["self"] ["self"] (defScope (mR 1)) := ⟨rfl, rfl, rfl, by decide +kernel, rfl, by decide +kernel, by decide +kernel⟩
def spFw (K : PySem.W.Frag) (C : Addr) : Sp := fun vs H Q _ => ∃ (x dx L : Addr) (i : Nat) (rows : List Str) (z : Str), vs = [.ref x] ∧ H x = some (rdO C dx L i) ∧ SqL K H L (rows.map V.str) ∧ rows.length ≤ 100 ∧ (∀ r ∈ rows, r.length ≤ 100) ∧ ((∃ (r : Str) (ws : List Str), rows[i]? = some r ∧ Txt.split r " " = z :: ws) ∨ (rows.length ≤ i ∧ z = "")) ∧ RetV (.str z) H Q
section
variable {P : Program} {w : World} {K : PySem.W.Frag} {mg : Str → Option Value} {base : Heap} {f : Addr} {fd : FuncData} {C : Addr}
theorem ok_ri (F : MeP K "__init__" "Reader.__init__" (mR 0) f fd) (rc : RC K C) : FnOk P w K mg base CX0 1 f fd ["self", "rows"] (spRi C) := by
  refine F.ok sc_ri (fun vs H Q E h => ?_) (fun cdv A outer s H vs Q E hr h => ?_)
  · obtain ⟨x, dx, L, rfl, _⟩ := h
    rfl
  · obtain ⟨x, dx, L, rfl, hx, k⟩ := h
    refine ⟨_, pss_cons (by
        exact ps_asg (pv 1) (pg_fld (pv 0))) <| pss_cons (by
        exact ps_asg pe_int (pg_fld (pv 0))) <| pss_one (by
        exact ps_asg pe_int (pg_fld (pv 0))), ?_⟩
    refine ⟨.ref L, rfl, .ref x, rfl, x, C, dx, [], rfl, hx, rc.cls, rc.lines, (show (0 : Nat) < 1000 by decide), ?_⟩
    refine ⟨.ref x, rfl, x, C, dx, [("lines", .ref L)], rfl, upd_same, rc.cls, rc.at_, (show (1 : Nat) < 1000 by decide), ?_⟩
    refine ⟨.ref x, rfl, x, C, dx, [("lines", .ref L), ("at", .int 0)], rfl, upd_same, rc.cls, rc.inside, (show (2 : Nat) < 1000 by decide), ?_⟩
    exact k _ upd_same fun a o ha h => by
      rw [upd_ne ha, upd_ne ha, upd_ne ha]
      exact h
theorem ok_fw (F : MeP K "first_word" "Reader.first_word" (mR 1) f fd) (rc : RC K C) (gL : mg "len" = none) : FnOk P w K mg base CX0 1 f fd ["self"] (spFw K C) := by
  refine F.ok sc_fw (fun vs H Q E h => ?_) (fun cdv A outer s H vs Q E hr h => ?_)
  · obtain ⟨x, dx, L, i, rows, z, rfl, _⟩ := h
    rfl
  · obtain ⟨x, dx, L, i, rows, z, rfl, hx, hL, hn, hr', hz, k⟩ := h
    refine ⟨_, pss_one (by
        exact ps_ret (pe_ifExp (pt_cmpR op_lt (pe_fld (pv 0) rfl) (pe_callB call_len_seq (by rfl) gL PySem.boot_len (pa_cons (pe_fld (pv 0) rfl) pa_nil)) (nomark _)) (pe_ix ix_list (pe_split (pe_ix ix_list (pe_fld (pv 0) rfl) (pe_fld (pv 0) rfl) (fun _ _ => rfl)) pe_str) pe_int (fun _ _ => rfl)) pe_str)), ?_⟩
    have eL : ∀ {H1 : Hp}, Ex H H1 → Ev (tFld K (tVar 0) "lines") [some (V.ref x)] H1 (.ref L) := fun e => ev_fld (ev_var rfl) (e _ _ hx) rc.cls rc.lines rfl
    have eA : ∀ {H1 : Hp}, Ex H H1 → Ev (tFld K (tVar 0) "at") [some (V.ref x)] H1 (.int (i : Nat)) := fun e => ev_fld (ev_var rfl) (e _ _ hx) rc.cls rc.at_ rfl
    refine s_ret (v := .str z) (ev_if (b := decide (i < rows.length)) (et_test (ev_is (ev_op (eA (Ex.refl _)) (ev_len (eL (Ex.refl _)) hL) rv_I0) ?_)) (fun hb => ?_) fun hb => ?_) fun H1 e1 => k.go e1
    · rw [List.length_map]
      exact congrArg V.bl (decide_eq_decide.mpr ⟨fun h => by omega, fun h => by omega⟩)
    · have hi := of_decide_eq_true hb
      rcases hz with ⟨r, ws, h1, h2⟩ | ⟨h1, _⟩
      · intro H1 e1 Q2 q2
        refine ev_ixL (i := i) (v := .str r) (eL (Ex.refl _)) (eA (Ex.refl _)) hL (by rw [List.getElem?_map, h1]; rfl) H1 e1 _ fun H2 e2 => ⟨⟨r, rfl⟩, r, " ", rfl, rfl, by decide +kernel, sz_of (by have := hr' r (List.mem_of_getElem? h1); omega), fun p hp => ⟨p, _, 0, .str z, rfl, rfl, sq_of upd_same, by rw [h2]; exact at_of (j := 0) rfl rfl, q2 _ (e2.trans (Ex.new hp))⟩⟩
      · omega
    · have hi := of_decide_eq_false hb
      rcases hz with ⟨r, ws, h1, h2⟩ | ⟨h1, rfl⟩
      · have := (List.getElem?_eq_some_iff.mp h1).1
        omega
      · exact ev_c
end
end Cp

namespace Cp
open PySem PySem.Spec PyProof.Rows L2 Evl GN GZ
theorem putAt (a : V) (n : V) (m : V) (v : V) : putF "at" v [(("lines" : Str), a), (("at" : Str), n), (("inside" : Str), m)] = [(("lines" : Str), a), (("at" : Str), v), (("inside" : Str), m)] := by
  unfold putF
  rw [if_neg (by decide)]
  unfold putF
  rw [if_pos rfl]
theorem sc_tk : FnScope ["self", "many", "word", "rest"] ["self", "many"] (defScope (mR 2)) := ⟨rfl, rfl, rfl, by decide +kernel, rfl, by decide +kernel, by decide +kernel⟩
def spTk (K : PySem.W.Frag) (C : Addr) : Sp := fun vs H Q _ => ∃ (x dx L : Addr) (i : Nat) (rows : List Str) (r w0 : Str) (ws : List Str) (m : V), vs = [.ref x, m] ∧ H x = some (rdO C dx L i) ∧ SqL K H L (rows.map V.str) ∧ rows.length ≤ 100 ∧ r.length ≤ 100 ∧ rows[i]? = some r ∧ Txt.split r " " = w0 :: ws ∧ ws.length ≤ 100 ∧
  inV (.str "") (ws.map V.str) = false ∧ (ws.map V.str).all flatV = true ∧ (m = .non ∨ m = .int (ws.length : Nat)) ∧ L ≠ x ∧
  ∀ p H2, H p = none → H2 x = some (rdO C dx L (i + 1)) → H2 p = some (.lst (ws.map V.str)) → (∀ a o, a ≠ x → H a = some o → H2 a = some o) → Q (.ref p) H2
section
variable {P : Program} {w : World} {K : PySem.W.Frag} {mg : Str → Option Value} {base : Heap} {f : Addr} {fd : FuncData} {C : Addr}
theorem ok_tk (F : MeP K "taken" "Reader.taken" (mR 2) f fd) (rc : RC K C) (gL : mg "len" = none) : FnOk P w K mg base CX0 1 f fd ["self", "many"] (spTk K C) := by
  refine F.ok sc_tk (fun vs H Q E h => ?_) (fun cdv A outer s H vs Q E hr h => ?_)
  · obtain ⟨x, dx, L, i, rows, r, w0, ws, m, rfl, _⟩ := h
    rfl
  · obtain ⟨x, dx, L, i, rows, r, w0, ws, m, rfl, hx, hL, hn, hr', hi, hsp, hwl, hin, hfl, hm, hLx, k⟩ := h
    refine ⟨_, pss_cons (by
        exact ps_if (pt_cmpR op_ge (pe_fld (pv 0) rfl) (pe_callB call_len_seq (by rfl) gL PySem.boot_len (pa_cons (pe_fld (pv 0) rfl) pa_nil)) (nomark _)) pss_no pss_nil) <| pss_cons (by
        exact ps_asg (pe_split (pe_ix ix_list (pe_fld (pv 0) rfl) (pe_fld (pv 0) rfl) (fun _ _ => rfl)) pe_str) (pg_starL (i := 2) (j := 3) rfl sc_tk.nd rfl rfl (Or.inl rfl) (Or.inl rfl) (Or.inl rfl) (Or.inl rfl))) <| pss_cons (by
        exact ps_if (PW.pt (pw_or (pt_cmpR op_in_seq pe_str (pv 3) (by rfl)) (pw_or1 (PW.pt (pw_and (pt_cmpR op_notN (pv 1) pe_non (nomark _)) (pw_and1 (by
          exact pt_cmpR op_ne (pe_callB call_len_seq (by rfl) gL PySem.boot_len (pa_cons (pv 3) pa_nil)) (pv 1) (by rfl)))))))) pss_no pss_nil) <| pss_cons (by
        exact ps_fldaug (pv 0) pe_int in_add) <| pss_one (by
        exact ps_ret (pv 3)), ?_⟩
    have eL : ∀ {H1 : Hp} {σ : L2.St}, Ex H H1 → σ[0]? = some (some (.ref x)) → Ev (tFld K (tVar 0) "lines") σ H1 (.ref L) := fun e z => ev_fld (ev_var z) (e _ _ hx) rc.cls rc.lines rfl
    have eA : ∀ {H1 : Hp} {σ : L2.St}, Ex H H1 → σ[0]? = some (some (.ref x)) → Ev (tFld K (tVar 0) "at") σ H1 (.int (i : Nat)) := fun e z => ev_fld (ev_var z) (e _ _ hx) rc.cls rc.at_ rfl
    have hil := (List.getElem?_eq_some_iff.mp hi).1
    refine q_no (et_test (ev_is (ev_op (eA (Ex.refl _) rfl) (ev_len (eL (Ex.refl _) rfl) hL) rv_I0) ?_)) fun H1 e1 => ?_
    · rw [List.length_map]
      exact congrArg V.bl (decide_eq_false (by omega))
    refine q_asgW ?_
    refine ev_ixL (i := i) (v := .str r) (eL e1 rfl) (eA e1 rfl) (ex_l e1 hL) (by rw [List.getElem?_map, hi]; rfl) H1 (Ex.refl _) _ fun H2 e2 => ⟨⟨r, rfl⟩, r, " ", rfl, rfl, by decide +kernel, sz_of (by omega), fun p hp => ?_⟩
    rw [hsp]
    refine ⟨p, .str w0, ws.map V.str, rfl, sq_of upd_same, by rw [List.length_map]; omega, fun q hq => ?_⟩
    have e02 : Ex H (upd H2 p (.lst ((w0 :: ws).map V.str))) := (e1.trans e2).trans (Ex.new hp)
    have e03 := e02.trans (Ex.new (o := .lst (ws.map V.str)) hq)
    have hq3 : (upd (upd H2 p (.lst ((w0 :: ws).map V.str))) q (.lst (ws.map V.str))) q = some (.lst (ws.map V.str)) := upd_same
    have nq := fresh_back e02 hq
    generalize upd (upd H2 p (.lst ((w0 :: ws).map V.str))) q (.lst (ws.map V.str)) = H3 at e03 hq3 ⊢
    refine q_no (et_orF (et_test (ev_is (ev_op ev_c (ev_var rfl) (rv_isL (sq_of hq3) rfl hfl)) (by rw [hin]))) ?_) fun H4 e4 => ?_
    · rcases hm with rfl | rfl
      · exact et_is (et_and (a := false) (b := false) (et_test (ev_op (x := .non) (y := .non) (z := .bl false) (ev_var rfl) ev_c fun H5 e5 Q q => ⟨rfl, q H5 (Ex.refl _)⟩)) fun z => (nomatch z)) rfl
      · exact et_is (et_and (a := true) (b := false) (et_test (ev_op (x := .int (ws.length : Nat)) (y := .non) (z := .bl true) (ev_var rfl) ev_c fun H5 e5 Q q => ⟨rfl, q H5 (Ex.refl _)⟩)) fun _ => et_is (et_ne (a := .int ((ws.map V.str).length : Int)) (b := .int (ws.length : Nat)) (ev_len (ev_var rfl) (sq_of hq3)) (ev_var rfl) rfl) (by simp)) rfl
    have e04 := e03.trans e4
    have hqx : q ≠ x := fun z => by rw [z, hx] at nq; cases nq
    refine ⟨.ref x, rfl, x, C, dx, _, .int (i : Nat), rfl, e04 _ _ hx, rc.cls, rc.at_, rfl, ?_⟩
    refine ⟨(i : Nat), 1, rfl, rfl, dx, _, e04 _ _ hx, (show (3 : Nat) < 1000 by decide), ?_⟩
    rw [putAt]
    have hx5 : (upd H4 x (.ins C dx [("lines", .ref L), ("at", .int ((i : Nat) + 1)), ("inside", .int 0)])) x = some (rdO C dx L (i + 1)) := upd_same
    refine s_ret (v := .ref q) (ev_var rfl) fun H5 e5 => k q H5 nq (e5 _ _ hx5) (e5 _ _ (by rw [upd_ne hqx]; exact e4 _ _ hq3)) fun a o ha h => e5 _ _ (by rw [upd_ne ha]; exact e04 _ _ h)
end
end Cp

namespace Cp
open PySem PySem.Spec PyProof.Rows L2 Evl GN GZ
/-- the one text's lines -/
def rows3 : List Str := ["kind a n", "proc m", "done"]
theorem split0 : Txt.split "kind a n" " " = (["kind", "a", "n"] : List Str) := by decide +kernel
theorem split1 : Txt.split "proc m" " " = (["proc", "m"] : List Str) := by decide +kernel
theorem split2 : Txt.split "done" " " = (["done"] : List Str) := by decide +kernel
theorem part0 : Txt.partition "n" ":" = (("n" : Str), ("" : Str), ("" : Str)) := by decide +kernel
def Nkr : List Str := ["self", "words", "name", "fields", "found", "field", "word", "mark", "kind"]
theorem sc_kr : FnScope Nkr ["self"] (defScope (mR 4)) := ⟨rfl, rfl, rfl, by decide +kernel, rfl, by decide +kernel, by decide +kernel⟩
def spKr (K : PySem.W.Frag) (C : Addr) : Sp := fun vs H Q _ => ∃ (x dx L : Addr), vs = [.ref x] ∧ H x = some (rdO C dx L 0) ∧ SqL K H L (rows3.map V.str) ∧ L ≠ x ∧
  ∀ t fl p H2, H2 x = some (rdO C dx L 1) → H2 t = some (.tup [.str "a", .ref fl]) → H2 fl = some (.lst [.ref p]) → H2 p = some (.tup [.str "n", .non]) → (∀ a o, a ≠ x → H a = some o → H2 a = some o) → Q (.ref t) H2
section
variable {P : Program} {w : World} {K : PySem.W.Frag} {mg : Str → Option Value} {base : Heap} {f : Addr} {fd : FuncData} {C : Addr}
theorem ok_kr (F : MeP K "kind_row" "Reader.kind_row" (mR 4) f fd) (rc : RC K C) (TK : Mcal P w K mg base C "taken" CX0 1 ["self", "many"] (spTk K C)) (gL : mg "len" = none) : FnOk P w K mg base CX0 2 f fd ["self"] (spKr K C) := by
  refine F.ok sc_kr (fun vs H Q E h => ?_) (fun cdv A outer s H vs Q E hr h => ?_)
  · obtain ⟨x, dx, L, rfl, _⟩ := h
    rfl
  · obtain ⟨x, dx, L, rfl, hx, hL, hLx, k⟩ := h
    refine ⟨_, pss_cons (by
        exact ps_asg (by
          exact pe_meth (pv 0) rc.cls TK.m TK.G hr TK.b .nil pass0 (pa_cons pe_non pa_nil)) (pg_name (i := 1) sc_kr.nd rfl (Or.inl rfl))) <| pss_cons (by
        exact ps_if (pt_cmpR op_lt (pe_callB call_len_seq (by rfl) gL PySem.boot_len (pa_cons (pv 1) pa_nil)) pe_int (nomark _)) pss_no pss_nil) <| pss_cons (by
        exact ps_asg (pv 1) (pg_starL (i := 2) (j := 3) rfl sc_kr.nd rfl rfl (Or.inl rfl) (Or.inl rfl) (Or.inl rfl) (Or.inl rfl))) <| pss_cons (by
        exact ps_asg (pe_lst pa_nil) (pg_name (i := 4) sc_kr.nd rfl (Or.inl rfl))) <| pss_cons (by
        refine ps_for (passes_of rfl) rfl (pi_list (pv 3)) (pg_name (i := 5) sc_kr.nd rfl (Or.inl rfl)) (pss_cons (by
          exact ps_asg (pe_partition (pv 5) pe_str) (pg_tup rfl (pgs_cons (pg_name (i := 6) sc_kr.nd rfl (Or.inl rfl)) (pgs_cons (pg_name (i := 7) sc_kr.nd rfl (Or.inl rfl)) (pgs_cons (pg_name (i := 8) sc_kr.nd rfl (Or.inl rfl)) pgs_nil))))) <| pss_cons (by
          exact ps_if (PW.pt (pw_and (pt_cmpR op_ne (pv 7) pe_str (nomark _)) (pw_and1 (by
            exact pt_cmpR op_eq (pv 8) pe_str (nomark _))))) pss_no pss_nil) <| pss_one (by
          exact ps_expr (pe_bm PySem.F.plainAttrs_list PySem.F.slot_list_append PySem.F.type_list_append mt_append (pv 4) (pa_cons (pe_tup (pa_cons (pv 6) (pa_cons (pe_ifExp (pt_cmpR op_ne (pv 7) pe_str (nomark _)) (pv 8) pe_non) pa_nil))) pa_nil))))) <| pss_one (by
        exact ps_ret (pe_tup (pa_cons (pv 2) (pa_cons (pv 4) pa_nil)))), ?_⟩
    refine q_asgW ?_
    refine ⟨.ref x, rfl, x, dx, _, rfl, hx, rfl, x, dx, L, 0, rows3, "kind a n", "kind", ["a", "n"], .non, rfl, hx, hL, by decide, by decide, rfl, split0, by decide, by decide +kernel, by decide +kernel, .inl rfl, hLx, fun p H2 np hx2 hp2 k2 => ?_⟩
    refine q_no (et_test (ev_is (ev_op (x := .int 2) (y := .int 2) (ev_len (xs := [.str "a", .str "n"]) (ev_var rfl) (sq_of hp2)) ev_c rv_I0) rfl)) fun H3 e3 => ?_
    refine q_asgW ?_
    refine ⟨_, rfl, p, .str "a", [.str "n"], rfl, sq_of (e3 _ _ hp2), by decide, fun q hq => ?_⟩
    refine q_asgL (xs := []) (el_lst ea_nil (show (0 : Nat) ≤ 100000 by decide)) fun l H4 hl e4 h4 => ?_
    have e34 : Ex H3 H4 := (Ex.new hq).trans e4
    have e24 := e3.trans e34
    have hq4 : H4 q = some (.lst [.str "n"]) := e4 _ _ upd_same
    have nl3 : H3 l = none := fresh_back (Ex.new hq) hl
    have hlq : l ≠ q := fun z => by rw [z, upd_same] at hl; cases hl
    have hlx : l ≠ x := fun z => by rw [z, e3 _ _ hx2] at nl3; cases nl3
    refine q_forL (xs := [.str "n"]) (ev_var rfl) (sq_of hq4) (fun i σ' H' => ∃ p5 p6 p7 p8, σ' = [some (.ref x), some (.ref p), some (.str "a"), some (.ref q), some (.ref l), p5, p6, p7, p8] ∧ (∀ a o, a ≠ l → H4 a = some o → H' a = some o) ∧ (i = 0 → H' l = some (.lst [])) ∧ (i = 1 → ∃ u, H' l = some (.lst [.ref u]) ∧ H' u = some (.tup [.str "n", .non]))) (fun H5 e5 => ⟨_, _, _, _, rfl, fun a o _ h => e5 _ _ h, fun _ => e5 _ _ h4, fun z => (nomatch z)⟩) (fun i σ' H' _ z => ?_) ?_ ?_
    · obtain ⟨_, _, _, _, _, z, _⟩ := z
      exact sq_of (z _ _ (Ne.symm hlq) hq4)
    · rintro i y σ' H5 hy ⟨p5, p6, p7, p8, rfl, k5, h50, _⟩
      have hi : i = 0 := by
        have := (List.getElem?_eq_some_iff.mp hy).1
        simp at this
        exact this
      subst hi
      have hy : V.str "n" = y := Option.some.inj hy
      subst hy
      have hl5 := h50 rfl
      refine q_asgW ?_
      refine ⟨_, rfl, ⟨"n", rfl⟩, "n", ":", rfl, rfl, by decide +kernel, sz_of (by decide), fun T hT => ?_⟩
      rw [part0]
      dsimp only
      have e5T : Ex H5 (upd H5 T (.tup [.str "n", .str "", .str ""])) := Ex.new hT
      refine ⟨T, _, rfl, st_of upd_same, rfl, .str "n", _, rfl, .str "", _, rfl, .str "", _, rfl, rfl, ?_⟩
      refine q_no (et_is (et_and (a := false) (b := false) (et_nes (x := "") (y := "") (ev_var rfl) ev_c (by decide)) fun z => (nomatch z)) rfl) fun H6 e6 => ?_
      have e56 := e5T.trans e6
      unfold tDrop tBM
      refine ⟨.ref l, rfl, .inl ⟨rfl, _, sq_of (e56 _ _ hl5)⟩, ?_⟩
      unfold tCons
      refine eu_tup (vs := [.str "n", .non]) (ea_cons (ev_var rfl) (ea_cons (ev_if (b := false) (et_nes (x := "") (y := "") (ev_var rfl) ev_c (by decide)) (fun z => (nomatch z)) fun _ => ev_c) ea_nil)) (show (2 : Nat) ≤ 100000 by decide) H6 (Ex.refl _) _ fun u H7 hu e7 hu7 => ?_
      refine ⟨l, [], .ref u, rfl, rfl, e7 _ _ (e56 _ _ hl5), sz_lt (by decide), ?_⟩
      have hul : u ≠ l := fun z => by rw [z, e56 _ _ hl5] at hu; cases hu
      exact ⟨_, _, _, _, rfl, fun a o ha h => by rw [upd_ne ha]; exact e7 _ _ (e56 _ _ (k5 a o ha h)), fun z => (nomatch z), fun _ => ⟨u, upd_same, by rw [upd_ne hul]; exact hu7⟩⟩
    · rintro σ' H5 ⟨p5, p6, p7, p8, rfl, k5, _, h51⟩
      obtain ⟨u, hl5, hu5⟩ := h51 rfl
      refine s_retU (xs := [.str "a", .ref l]) (eu_tup (ea_cons (ev_var rfl) (ea_cons (ev_var rfl) ea_nil)) (show (2 : Nat) ≤ 100000 by decide)) fun t H6 ht e6 h6 => ?_
      exact k t l u H6 (e6 _ _ (k5 _ _ (Ne.symm hlx) (e24 _ _ hx2))) h6 (e6 _ _ hl5) (e6 _ _ hu5) fun a o ha h => by
        have h2 := k2 a o ha h
        exact e6 _ _ (k5 _ _ (fun z => by rw [z] at h2; rw [e3 _ _ h2] at nl3; cases nl3) (e24 _ _ h2))
end
end Cp

namespace Cp
open PySem PySem.Spec PyProof.Rows L2 Evl GN GZ
theorem sc_no : FnScope ["self", "word", "found", "name", "kind"] ["self", "word"] (defScope (mR 9)) := ⟨rfl, rfl, rfl, by decide +kernel, rfl, by decide +kernel, by decide +kernel⟩
/-- the line in hand is the third -/
def spNo (K : PySem.W.Frag) (C : Addr) : Sp := fun vs H Q _ => ∃ (x dx L : Addr) (wd : Str), vs = [.ref x, .str wd] ∧ H x = some (rdO C dx L 2) ∧ SqL K H L (rows3.map V.str) ∧ (V.str "done" = V.str wd → False) ∧ ∀ p H2, H p = none → Ex H H2 → H2 p = some (.lst []) → Q (.ref p) H2
theorem sc_bo : FnScope ["self", "ends", "found"] ["self", "ends"] (defScope (mR 8)) := ⟨rfl, rfl, rfl, by decide +kernel, rfl, by decide +kernel, by decide +kernel⟩
def spBo (K : PySem.W.Frag) (C : Addr) : Sp := fun vs H Q _ => ∃ (x dx L e : Addr), vs = [.ref x, .ref e] ∧ H x = some (rdO C dx L 2) ∧ SqL K H L (rows3.map V.str) ∧ SqT K H e [.str "done"] ∧ ∀ p H2, H p = none → Ex H H2 → H2 p = some (.tup []) → Q (.ref p) H2
section
variable {K : PySem.W.Frag} {σ : L2.St} {H : Hp} {C : Addr}
theorem fw_at {x dx L : Addr} {i : Nat} {z : Str} (h0 : σ[0]? = some (some (.ref x))) (hx : H x = some (rdO C dx L i)) (hL : SqL K H L (rows3.map V.str)) (hz : (∃ (r : Str) (ws : List Str), rows3[i]? = some r ∧ Txt.split r " " = z :: ws) ∨ (rows3.length ≤ i ∧ z = "")) : Ev (tMeth C "first_word" (spFw K C) [] E0 (tVar 0) tNil) σ H (.str z) :=
  ev_meth (ev_var h0) hx rfl ea_nil (RetV.call fun H1 e Q E q => ⟨x, dx, L, i, rows3, z, rfl, e _ _ hx, ex_l e hL, by decide, by decide, hz, q⟩)
theorem fw2 {x dx L : Addr} (h0 : σ[0]? = some (some (.ref x))) (hx : H x = some (rdO C dx L 2)) (hL : SqL K H L (rows3.map V.str)) : Ev (tMeth C "first_word" (spFw K C) [] E0 (tVar 0) tNil) σ H (.str "done") := fw_at h0 hx hL (.inl ⟨"done", [], rfl, split2⟩)
end
section
variable {P : Program} {w : World} {K : PySem.W.Frag} {mg : Str → Option Value} {base : Heap} {f : Addr} {fd : FuncData} {C : Addr}
theorem ok_no (F : MeP K "names_of" "Reader.names_of" (mR 9) f fd) (rc : RC K C) (FW : Mcal P w K mg base C "first_word" CX0 1 ["self"] (spFw K C)) : FnOk P w K mg base CX0 2 f fd ["self", "word"] (spNo K C) := by
  refine F.ok sc_no (fun vs H Q E h => ?_) (fun cdv A outer s H vs Q E hr h => ?_)
  · obtain ⟨x, dx, L, wd, rfl, _⟩ := h
    rfl
  · obtain ⟨x, dx, L, wd, rfl, hx, hL, hne, k⟩ := h
    refine ⟨_, pss_cons (by
        exact ps_asg (pe_lst pa_nil) (pg_name (i := 2) sc_no.nd rfl (Or.inl rfl))) <| pss_cons (by
        refine ps_while (passes_of rfl) (pt_cmpR op_eq (by
          exact pe_meth0 (pv 0) rc.cls FW.m FW.G hr FW.b .nil pass0) (pv 1) (nomark _)) pss_no) <| pss_one (by
        exact ps_ret (pv 2)), ?_⟩
    refine q_asgL (xs := []) (el_lst ea_nil (show (0 : Nat) ≤ 100000 by decide)) fun p H1 hp e1 h1 => ?_
    refine q_while (fun m σ' H' => σ' = [some (.ref x), some (.str wd), some (.ref p), none, none] ∧ Ex H1 H') 0 ⟨rfl, Ex.refl _⟩ fun m σ' H' z => ?_
    obtain ⟨rfl, e2⟩ := z
    refine ⟨false, et_is (et_eq (fw2 rfl ((e1.trans e2) _ _ hx) (ex_l (e1.trans e2) hL)) (ev_var rfl) rfl) (decide_eq_false hne), fun z => (nomatch z), fun _ H3 e3 => ?_⟩
    exact s_ret (v := .ref p) (ev_var rfl) fun H4 e4 => k p H4 hp (e1.trans ((e2.trans e3).trans e4)) (((e2.trans e3).trans e4) _ _ h1)
theorem ok_bo (F : MeP K "body" "Reader.body" (mR 8) f fd) (rc : RC K C) (FW : Mcal P w K mg base C "first_word" CX0 1 ["self"] (spFw K C)) (gT : mg "tuple" = none) : FnOk P w K mg base CX0 2 f fd ["self", "ends"] (spBo K C) := by
  refine F.ok sc_bo (fun vs H Q E h => ?_) (fun cdv A outer s H vs Q E hr h => ?_)
  · obtain ⟨x, dx, L, e, rfl, _⟩ := h
    rfl
  · obtain ⟨x, dx, L, e, rfl, hx, hL, he, k⟩ := h
    refine ⟨_, pss_cons (by
        exact ps_asg (pe_lst pa_nil) (pg_name (i := 2) sc_bo.nd rfl (Or.inl rfl))) <| pss_cons (by
        refine ps_while (passes_of rfl) (pt_cmpR op_notIn_seq (by
          exact pe_meth0 (pv 0) rc.cls FW.m FW.G hr FW.b .nil pass0) (pv 1) (by rfl)) pss_no) <| pss_one (by
        exact ps_ret (pe_callTy call_tuple_of (by rfl) gT boot_tuple (pa_cons (pv 2) pa_nil))), ?_⟩
    refine q_asgL (xs := []) (el_lst ea_nil (show (0 : Nat) ≤ 100000 by decide)) fun p H1 hp e1 h1 => ?_
    refine q_while (fun m σ' H' => σ' = [some (.ref x), some (.ref e), some (.ref p)] ∧ Ex H1 H') 0 ⟨rfl, Ex.refl _⟩ fun m σ' H' z => ?_
    obtain ⟨rfl, e2⟩ := z
    refine ⟨false, et_test (ev_is (ev_op (fw2 rfl ((e1.trans e2) _ _ hx) (ex_l (e1.trans e2) hL)) (ev_var rfl) (rv_niT (xs := [.str "done"]) (ex_t (e1.trans e2) he) rfl rfl)) (by decide +kernel)), fun z => (nomatch z), fun _ H3 e3 => ?_⟩
    have e13 := e2.trans e3
    exact ⟨.ref p, rfl, p, [], rfl, .inl ⟨sq_of (e13 _ _ h1), fun l hl => k l _ (fresh_back (e1.trans e13) hl) ((e1.trans e13).trans (Ex.new hl)) upd_same⟩⟩
end
end Cp

namespace Cp
open PySem PySem.Spec PyProof.Rows L2 Evl GN GZ
def Npr : List Str := ["self", "name", "takes", "has", "gives", "body"]
theorem sc_pr : FnScope Npr ["self"] (defScope (mR 10)) := ⟨rfl, rfl, rfl, by decide +kernel, rfl, by decide +kernel, by decide +kernel⟩
def spPr (K : PySem.W.Frag) (C : Addr) : Sp := fun vs H Q _ => ∃ (x dx L : Addr), vs = [.ref x] ∧ H x = some (rdO C dx L 1) ∧ SqL K H L (rows3.map V.str) ∧ L ≠ x ∧
  ∀ t tk hs bo H2, H tk = none → H hs = none → H2 x = some (rdO C dx L 3) → H2 t = some (.tup [.str "m", .ref tk, .ref hs, .non, .ref bo]) → H2 tk = some (.lst []) → H2 hs = some (.lst []) → H2 bo = some (.tup []) → (∀ a o, a ≠ x → H a = some o → H2 a = some o) → Q (.ref t) H2
section
variable {P : Program} {w : World} {K : PySem.W.Frag} {mg : Str → Option Value} {base : Heap} {f : Addr} {fd : FuncData} {C : Addr}
theorem ok_pr (F : MeP K "procedure_row" "Reader.procedure_row" (mR 10) f fd) (rc : RC K C) (FW : Mcal P w K mg base C "first_word" CX0 1 ["self"] (spFw K C)) (TK : Mcal P w K mg base C "taken" CX0 1 ["self", "many"] (spTk K C)) (NO : Mcal P w K mg base C "names_of" CX0 2 ["self", "word"] (spNo K C)) (BO : Mcal P w K mg base C "body" CX0 2 ["self", "ends"] (spBo K C)) : FnOk P w K mg base CX0 3 f fd ["self"] (spPr K C) := by
  refine F.ok sc_pr (fun vs H Q E h => ?_) (fun cdv A outer s H vs Q E hr h => ?_)
  · obtain ⟨x, dx, L, rfl, _⟩ := h
    rfl
  · have hrm := fun j (h : j ≤ 2) => hr.mono (j := j) h
    obtain ⟨x, dx, L, rfl, hx, hL, hLx, k⟩ := h
    refine ⟨_, pss_cons (by
        exact ps_if (pt_cmpR op_ne (by
          exact pe_meth0 (pv 0) rc.cls FW.m FW.G (hrm 1 (by decide)) FW.b .nil pass0) pe_str (nomark _)) pss_no pss_nil) <| pss_cons (by
        exact ps_asg (pe_ix ix_list (by
          exact pe_meth (pv 0) rc.cls TK.m TK.G (hrm 1 (by decide)) TK.b .nil pass0 (pa_cons pe_int pa_nil)) pe_int (fun _ _ => rfl)) (pg_name (i := 1) sc_pr.nd rfl (Or.inl rfl))) <| pss_cons (by
        exact ps_par (i := 2) (j := 3) rfl sc_pr.nd rfl rfl (by decide) rfl rfl (pa_cons (by
          exact pe_meth (pv 0) rc.cls NO.m NO.G hr NO.b .nil pass0 (pa_cons pe_str pa_nil)) (pa_cons (by
          exact pe_meth (pv 0) rc.cls NO.m NO.G hr NO.b .nil pass0 (pa_cons pe_str pa_nil)) pa_nil)) rfl) <| pss_cons (by
        exact ps_asg (pe_ifExp (pt_cmpR op_eq (by
          exact pe_meth0 (pv 0) rc.cls FW.m FW.G (hrm 1 (by decide)) FW.b .nil pass0) pe_str (nomark _)) pe_no pe_non) (pg_name (i := 4) sc_pr.nd rfl (Or.inl rfl))) <| pss_cons (by
        exact ps_asg (by
          exact pe_meth (pv 0) rc.cls BO.m BO.G hr BO.b .nil pass0 (pa_cons (pe_tup (pa_cons pe_str pa_nil)) pa_nil)) (pg_name (i := 5) sc_pr.nd rfl (Or.inl rfl))) <| pss_cons (by
        exact ps_expr (by
          exact pe_meth (pv 0) rc.cls TK.m TK.G (hrm 1 (by decide)) TK.b .nil pass0 (pa_cons pe_int pa_nil))) <| pss_one (by
        exact ps_ret (pe_tup (pa_cons (pv 1) (pa_cons (pv 2) (pa_cons (pv 3) (pa_cons (pv 4) (pa_cons (pv 5) pa_nil))))))), ?_⟩
    refine q_no (et_nes (x := "proc") (y := "proc") (fw_at rfl hx hL (.inl ⟨"proc m", ["m"], rfl, split1⟩)) ev_c (by decide)) fun H1 e1 => ?_
    refine q_asgW ?_
    refine ⟨.ref x, rfl, x, dx, _, rfl, e1 _ _ hx, rfl, x, dx, L, 1, rows3, "proc m", "proc", ["m"], .int 1, rfl, e1 _ _ hx, ex_l e1 hL, by decide, by decide, rfl, split1, by decide, by decide +kernel, by decide +kernel, .inr rfl, hLx, fun p H2 np hx2 hp2 k2 => ?_⟩
    refine ⟨p, _, 0, .str "m", rfl, rfl, sq_of hp2, at_of (j := 0) rfl rfl, ?_⟩
    have hL2 : SqL K H2 L (rows3.map V.str) := sqL_at hLx k2 (ex_l e1 hL)
    refine ⟨.ref x, rfl, x, dx, _, rfl, hx2, rfl, x, dx, L, "takes", rfl, hx2, hL2, by decide, fun tk H3 ntk e3 h3 => ?_⟩
    refine ⟨.ref x, rfl, x, dx, _, rfl, e3 _ _ hx2, rfl, x, dx, L, "has", rfl, e3 _ _ hx2, ex_l e3 hL2, by decide, fun hs H4 nhs e4 h4 => ?_⟩
    refine ⟨_, _, rfl, ?_⟩
    dsimp only
    have e24 := e3.trans e4
    refine q_asg (v := .non) (ev_if (b := false) ?_ (fun z => (nomatch z)) fun _ => ev_c) fun H5 e5 => ?_
    · exact et_is (et_eq (a := .str "done") (b := .str "gives") (fw2 rfl (e24 _ _ hx2) (ex_l e24 hL2)) ev_c rfl) (by decide)
    have e25 := e24.trans e5
    refine q_asgW ?_
    refine ⟨.ref x, rfl, x, dx, _, rfl, e25 _ _ hx2, rfl, sz_of (n := 1) (by decide), fun en hen => ?_⟩
    have e26 := e25.trans (Ex.new (o := .tup [V.str "done"]) hen)
    refine ⟨x, dx, L, en, rfl, e26 _ _ hx2, ex_l e26 hL2, st_of upd_same, fun bo H6 nbo e6 h6 => ?_⟩
    have e27 := e26.trans e6
    show tMeth _ _ _ _ _ _ _ _ H6 _
    refine ⟨.ref x, rfl, x, dx, _, rfl, e27 _ _ hx2, rfl, x, dx, L, 2, rows3, "done", "done", [], .int 0, rfl, e27 _ _ hx2, ex_l e27 hL2, by decide, by decide, rfl, split2, by decide, by decide +kernel, by decide +kernel, .inr rfl, hLx, fun q H7 nq hx7 hq7 k7 => ?_⟩
    refine s_retU (xs := [.str "m", .ref tk, .ref hs, .non, .ref bo]) (eu_tup (ea_cons (ev_var rfl) (ea_cons (ev_var rfl) (ea_cons (ev_var rfl) (ea_cons (ev_var rfl) (ea_cons (ev_var rfl) ea_nil))))) (show (5 : Nat) ≤ 100000 by decide)) fun t H8 ht e8 h8 => ?_
    have ntx : tk ≠ x := fun z => by rw [z, hx2] at ntk; cases ntk
    have nhx : hs ≠ x := fun z => by rw [z, e3 _ _ hx2] at nhs; cases nhs
    have nbx : bo ≠ x := fun z => by rw [z, e26 _ _ hx2] at nbo; cases nbo
    have back : ∀ a, a ≠ x → H2 a = none → H a = none := fun a ha n => by
      cases h : H a with
      | none => rfl
      | some o =>
        have := k2 a o ha (e1 _ _ h)
        rw [n] at this
        cases this
    exact k t tk hs bo H8 (back _ ntx ntk) (back _ nhx (fresh_back e3 nhs)) (e8 _ _ hx7) h8 (e8 _ _ (k7 _ _ ntx (e6 _ _ (Ex.new hen _ _ (e5 _ _ (e4 _ _ h3)))))) (e8 _ _ (k7 _ _ nhx (e6 _ _ (Ex.new hen _ _ (e5 _ _ h4))))) (e8 _ _ (k7 _ _ nbx h6)) fun a o ha h => e8 _ _ (k7 _ _ ha (e27 _ _ (k2 a o ha (e1 _ _ h))))
end
end Cp

namespace Cp
open PySem PySem.Spec PyProof.Rows L2 Evl GN GZ
def theText : Str := "kind a n\nproc m\ndone\n"
theorem split3 : Txt.split theText "\n" = rows3 ++ [("" : Str)] := by decide +kernel
def Nrp : List Str := ["text", "rows", "last", "reader", "kinds", "procedures"]
theorem sc_rp : FnScope Nrp ["text"] (defScope (top 90)) := ⟨rfl, rfl, rfl, by decide +kernel, rfl, by decide +kernel, by decide +kernel⟩
/-- nothing is let out -/
theorem passE {X : Cx} : Passes (CX X.prog X.w) X E0 := fun pins σ H s e s' I h => by
  obtain ⟨_, _, _, _, _, _, _, _, _, _, _, _, q⟩ := h
  exact False.elim q
def spRp : Sp := fun vs H Q _ => vs = [.str theText] ∧ ∀ p H2, H p = none → Ex H H2 → Q (.ref p) H2
structure Make (P : Program) (w : World) (K : PySem.W.Frag) (mg : Str → Option Value) (base : Heap) (C : Addr) (x : Str) (X : CXT) (k : Nat) (ps : List Str) (sp : Sp) where
  f : Addr
  fd : FuncData
  m : Mk K C f
  G : FnOk P w K mg base X k f fd ps sp
  g : mg x = some (.ref C)
  b : Binds K fd ps []
section
variable {P : Program} {w : World} {K : PySem.W.Frag} {mg : Str → Option Value} {base : Heap} {f : Addr} {fd : FuncData} {C CK CP : Addr}
theorem ok_rp (F : FnP K "read_program" (top 90) [] f fd) (rc : RC K C) (MR : Make P w K mg base C "Reader" CX0 1 ["self", "rows"] (spRi C)) (MK : Make P w K mg base CK "Kinds" CX0 3 ["self", "rows"] (spKi K CK)) (MP : Make P w K mg base CP "Program" (CX P w) 8 ["self", "kinds", "procedures"] (spPi K CP))
    (FW : Mcal P w K mg base C "first_word" CX0 1 ["self"] (spFw K C)) (KR : Mcal P w K mg base C "kind_row" CX0 2 ["self"] (spKr K C)) (PR : Mcal P w K mg base C "procedure_row" CX0 3 ["self"] (spPr K C)) (gL : mg "len" = none) : FnOk P w K mg base CX0 10 f fd ["text"] spRp := by
  refine F.ok sc_rp (fun vs H Q E h => ?_) (fun cdv A outer s H vs Q E hr h => ?_)
  · obtain ⟨rfl, _⟩ := h
    rfl
  · have hrm := fun j (h : j ≤ 9) => hr.mono (j := j) h
    obtain ⟨rfl, k⟩ := h
    refine ⟨_, pss_cons (by
        exact ps_asg (pe_split (pv 0) pe_str) (pg_starF (i := 1) (j := 2) rfl sc_rp.nd rfl rfl (Or.inl rfl) (Or.inl rfl) (Or.inl rfl) (Or.inl rfl))) <| pss_cons (by
        exact ps_if (PW.pt (pw_or (pt_cmpR op_ne (pv 2) pe_str (nomark _)) (pw_or1 (by
          exact pt_cmpR op_eq (pe_callB call_len_seq (by rfl) gL PySem.boot_len (pa_cons (pv 1) pa_nil)) pe_int (nomark _))))) pss_no pss_nil) <| pss_cons (by
        exact ps_asg (pe_make MR.m MR.G (hrm 2 (by decide)) (by rfl) MR.g MR.b .nil pass0 (pa_cons (pv 1) pa_nil)) (pg_name (i := 3) sc_rp.nd rfl (Or.inl rfl))) <| pss_cons (by
        exact ps_asg (pe_lst pa_nil) (pg_name (i := 4) sc_rp.nd rfl (Or.inl rfl))) <| pss_cons (by
        refine ps_while (passes_of rfl) (pt_cmpR op_eq (by
          exact pe_meth0 (pv 3) rc.cls FW.m FW.G (hrm 1 (by decide)) FW.b .nil pass0) pe_str (nomark _)) (pss_one (by
          exact ps_expr (pe_bm PySem.F.plainAttrs_list PySem.F.slot_list_append PySem.F.type_list_append mt_append (pv 4) (pa_cons (by
            exact pe_meth0 (pv 3) rc.cls KR.m KR.G (hrm 2 (by decide)) KR.b .nil pass0) pa_nil))))) <| pss_cons (by
        exact ps_asg (pe_lst pa_nil) (pg_name (i := 5) sc_rp.nd rfl (Or.inl rfl))) <| pss_cons (by
        refine ps_while (passes_of rfl) (pt_cmpR op_lt (pe_fld (pv 3) rfl) (pe_callB call_len_seq (by rfl) gL PySem.boot_len (pa_cons (pv 1) pa_nil)) (nomark _)) (pss_one (by
          exact ps_expr (pe_bm PySem.F.plainAttrs_list PySem.F.slot_list_append PySem.F.type_list_append mt_append (pv 5) (pa_cons (by
            exact pe_meth0 (pv 3) rc.cls PR.m PR.G (hrm 3 (by decide)) PR.b .nil pass0) pa_nil))))) <| pss_one (by
        exact ps_ret (pe_make MP.m MP.G hr (by rfl) MP.g MP.b .nil passE (pa_cons (by
          exact pe_make MK.m MK.G (hrm 4 (by decide)) (by rfl) MK.g MK.b .nil pass0 (pa_cons (pv 4) pa_nil)) (pa_cons (pv 5) pa_nil)))), ?_⟩
    refine q_asgW ?_
    refine ⟨_, rfl, ⟨theText, rfl⟩, theText, "\n", rfl, rfl, by decide +kernel, sz_of (by decide +kernel), fun p0 hp0 => ?_⟩
    rw [split3]
    refine ⟨p0, .str "", rows3.map V.str, rfl, sq_of upd_same, by decide, fun L hL => ?_⟩
    have e1 : Ex H (upd (upd H p0 (.lst ((rows3 ++ [("" : Str)]).map V.str))) L (.lst (rows3.map V.str))) := (Ex.new hp0).trans (Ex.new hL)
    have hL1 : (upd (upd H p0 (.lst ((rows3 ++ [("" : Str)]).map V.str))) L (.lst (rows3.map V.str))) L = some (.lst (rows3.map V.str)) := upd_same
    generalize upd (upd H p0 (.lst ((rows3 ++ [("" : Str)]).map V.str))) L (.lst (rows3.map V.str)) = H1 at e1 hL1 ⊢
    refine q_no (et_orF (et_nes (x := "") (y := "") (ev_var rfl) ev_c (by decide)) (et_is (et_eq (a := .int 3) (b := .int 0) (ev_is (ev_len (xs := rows3.map V.str) (ev_var rfl) (sq_of hL1)) rfl) ev_c rfl) (by decide))) fun H2 e2 => ?_
    have e02 := e1.trans e2
    have hL2 := e2 _ _ hL1
    refine q_asgW ?_
    refine ⟨.ref L, rfl, fun rd dx hrd hdx hne => ⟨rd, dx, L, rfl, upd_same, fun H3 hx3 k3 => ⟨rfl, ?_⟩⟩⟩
    have e23 : Ex H2 H3 := fun a o h => k3 a o (fun z => by rw [z, hrd] at h; cases h) (((Ex.new hdx).trans (Ex.new (by rw [upd_ne (Ne.symm hne)]; exact hrd))) a o h)
    have hL3 := e23 _ _ hL2
    have hLr : L ≠ rd := fun z => by rw [z, hrd] at hL2; cases hL2
    have e03 := e02.trans e23
    have nrd : H rd = none := fresh_back e02 hrd
    refine q_asgL (xs := []) (el_lst ea_nil (show (0 : Nat) ≤ 100000 by decide)) fun kl H4 nkl e4 hkl => ?_
    have hx4 := e4 _ _ hx3
    have hL4 := e4 _ _ hL3
    have e04 := e03.trans e4
    have hkr : kl ≠ rd := fun z => by rw [z, hx3] at nkl; cases nkl
    have hkL : kl ≠ L := fun z => by rw [z, hL3] at nkl; cases nkl
    have nklH : H kl = none := fresh_back e03 nkl
    have rest : ∀ t fl p H5, H5 rd = some (rdO C dx L 1) → H5 kl = some (.lst [.ref t]) → H5 t = some (.tup [.str "a", .ref fl]) → H5 fl = some (.lst [.ref p]) → H5 p = some (.tup [.str "n", .non]) → H5 L = some (.lst (rows3.map V.str)) → Ex H H5 → True := fun _ _ _ _ _ _ _ _ _ _ _ => trivial
    clear rest
    refine q_while (fun m σ' H' => σ' = [some (.str theText), some (.ref L), some (.str ""), some (.ref rd), some (.ref kl), none] ∧ Ex H H' ∧ H' L = some (.lst (rows3.map V.str)) ∧ ((m = 1 ∧ H' rd = some (rdO C dx L 0) ∧ H' kl = some (.lst [])) ∨ (m = 0 ∧ ∃ t fl p, H' rd = some (rdO C dx L 1) ∧ H' kl = some (.lst [.ref t]) ∧ H' t = some (.tup [.str "a", .ref fl]) ∧ H' fl = some (.lst [.ref p]) ∧ H' p = some (.tup [.str "n", .non])))) 1 ⟨rfl, e04, hL4, .inl ⟨rfl, hx4, hkl⟩⟩ fun m σ' H5 z => ?_
    obtain ⟨rfl, e5, hL5, z⟩ := z
    rcases z with ⟨rfl, hx5, hk5⟩ | ⟨rfl, t, fl, p, hx5, hk5, ht5, hf5, hp5⟩
    · refine ⟨true, et_is (et_eq (a := .str "kind") (b := .str "kind") ?_ ev_c rfl) (by decide), fun _ H6 e6 => ⟨fun σ2 H2' => σ2 = [some (.str theText), some (.ref L), some (.str ""), some (.ref rd), some (.ref kl), none] ∧ Ex H H2' ∧ H2' L = some (.lst (rows3.map V.str)) ∧ ((0 = 1 ∧ H2' rd = some (rdO C dx L 0) ∧ H2' kl = some (.lst [])) ∨ (0 = 0 ∧ ∃ t fl p, H2' rd = some (rdO C dx L 1) ∧ H2' kl = some (.lst [.ref t]) ∧ H2' t = some (.tup [.str "a", .ref fl]) ∧ H2' fl = some (.lst [.ref p]) ∧ H2' p = some (.tup [.str "n", .non]))), fun σ2 H2' z => ⟨0, by decide, z.1, z.2.1, z.2.2.1, .inr ⟨rfl, z.2.2.2.resolve_left (fun w => by simp at w) |>.2⟩⟩, ?_⟩, fun z => (nomatch z)⟩
      · exact ev_meth (ev_var rfl) hx5 rfl ea_nil (RetV.call fun H1 e Q E q => ⟨rd, dx, L, 0, rows3, "kind", rfl, e _ _ hx5, ex_l e (sq_of hL5), by decide, by decide, .inl ⟨"kind a n", ["a", "n"], rfl, split0⟩, q⟩)
      · unfold tDrop tBM
        refine ⟨.ref kl, rfl, .inl ⟨rfl, _, sq_of (e6 _ _ hk5)⟩, ?_⟩
        unfold tCons
        refine ⟨.ref rd, rfl, rd, dx, _, rfl, e6 _ _ hx5, rfl, rd, dx, L, rfl, e6 _ _ hx5, sq_of (e6 _ _ hL5), hLr, fun t fl p H7 hx7 ht7 hf7 hp7 k7 => ?_⟩
        refine ⟨kl, [], .ref t, rfl, rfl, k7 _ _ hkr (e6 _ _ hk5), sz_lt (by decide), ?_⟩
        have hk7 := k7 _ _ hkr (e6 _ _ hk5)
        have htk : t ≠ kl := fun z => by rw [z, hk7] at ht7; cases ht7
        have hfk : fl ≠ kl := fun z => by rw [z, hk7] at hf7; cases hf7
        have hpk : p ≠ kl := fun z => by rw [z, hk7] at hp7; cases hp7
        exact ⟨rfl, fun a o h => by
          rw [upd_ne (fun z => by rw [z, nklH] at h; cases h)]
          exact k7 _ _ (fun z => by rw [z, nrd] at h; cases h) (e6 _ _ (e5 _ _ h)), by rw [upd_ne (Ne.symm hkL)]; exact k7 _ _ hLr (e6 _ _ hL5), .inr ⟨rfl, t, fl, p, by rw [upd_ne (Ne.symm hkr)]; exact hx7, upd_same, by rw [upd_ne htk]; exact ht7, by rw [upd_ne hfk]; exact hf7, by rw [upd_ne hpk]; exact hp7⟩⟩
    · refine ⟨false, et_is (et_eq (a := .str "proc") (b := .str "kind") ?_ ev_c rfl) (by decide), fun z => (nomatch z), fun _ H6 e6 => ?_⟩
      · exact ev_meth (ev_var rfl) hx5 rfl ea_nil (RetV.call fun H1 e Q E q => ⟨rd, dx, L, 1, rows3, "proc", rfl, e _ _ hx5, ex_l e (sq_of hL5), by decide, by decide, .inl ⟨"proc m", ["m"], rfl, split1⟩, q⟩)
      have hx6 := e6 _ _ hx5
      have hL6 := e6 _ _ hL5
      have hk6 := e6 _ _ hk5
      have ht6 := e6 _ _ ht5
      have hf6 := e6 _ _ hf5
      have hp6 := e6 _ _ hp5
      have e06 := e5.trans e6
      refine q_asgL (xs := []) (el_lst ea_nil (show (0 : Nat) ≤ 100000 by decide)) fun pl H7 npl e7 hpl => ?_
      have hpr : pl ≠ rd := fun z => by rw [z, hx6] at npl; cases npl
      have hpL : pl ≠ L := fun z => by rw [z, hL6] at npl; cases npl
      have hpkl : pl ≠ kl := fun z => by rw [z, hk6] at npl; cases npl
      have hptt : pl ≠ t := fun z => by rw [z, ht6] at npl; cases npl
      have hpf : pl ≠ fl := fun z => by rw [z, hf6] at npl; cases npl
      have hpp : pl ≠ p := fun z => by rw [z, hp6] at npl; cases npl
      have nplH : H pl = none := fresh_back e06 npl
      have hkr2 : kl ≠ rd := hkr
      have htr : t ≠ rd := fun z => by rw [z, hx6] at ht6; cases ht6
      have hfr : fl ≠ rd := fun z => by rw [z, hx6] at hf6; cases hf6
      have hppr : p ≠ rd := fun z => by rw [z, hx6] at hp6; cases hp6
      refine q_while (tz := tRet _) (fun m σ' H' => σ' = [some (.str theText), some (.ref L), some (.str ""), some (.ref rd), some (.ref kl), some (.ref pl)] ∧ (∀ a o, a ≠ rd → a ≠ pl → H7 a = some o → H' a = some o) ∧ ((m = 1 ∧ H' rd = some (rdO C dx L 1) ∧ H' pl = some (.lst [])) ∨ (m = 0 ∧ ∃ t tk hs bo, H' rd = some (rdO C dx L 3) ∧ H' pl = some (.lst [.ref t]) ∧ H' t = some (.tup [.str "m", .ref tk, .ref hs, .non, .ref bo]) ∧ H' tk = some (.lst []) ∧ H' hs = some (.lst []) ∧ H' bo = some (.tup [])))) 1 ⟨rfl, fun _ _ _ _ h => h, .inl ⟨rfl, e7 _ _ hx6, hpl⟩⟩ fun m σ' H8 z => ?_
      obtain ⟨rfl, k8, z⟩ := z
      have hL8 := k8 _ _ hLr (Ne.symm hpL) (e7 _ _ hL6)
      rcases z with ⟨rfl, hx8, hp8⟩ | ⟨rfl, t2, tk, hs, bo, hx8, hp8, ht8, htk8, hhs8, hbo8⟩
      · refine ⟨true, ?_, fun _ H9 e9 => ⟨fun σ2 H2' => σ2 = [some (.str theText), some (.ref L), some (.str ""), some (.ref rd), some (.ref kl), some (.ref pl)] ∧ (∀ a o, a ≠ rd → a ≠ pl → H7 a = some o → H2' a = some o) ∧ ∃ t tk hs bo, H2' rd = some (rdO C dx L 3) ∧ H2' pl = some (.lst [.ref t]) ∧ H2' t = some (.tup [.str "m", .ref tk, .ref hs, .non, .ref bo]) ∧ H2' tk = some (.lst []) ∧ H2' hs = some (.lst []) ∧ H2' bo = some (.tup []), fun σ2 H2' z => ⟨0, by decide, z.1, z.2.1, .inr ⟨rfl, z.2.2⟩⟩, ?_⟩, fun z => (nomatch z)⟩
        · exact et_test (ev_is (ev_op (x := .int ((1 : Nat) : Int)) (y := .int ((rows3.map V.str).length : Int)) (ev_fld (ev_var rfl) hx8 rc.cls rc.at_ rfl) (ev_len (ev_var rfl) (sq_of hL8)) rv_I0) (by decide))
        · unfold tDrop tBM
          refine ⟨.ref pl, rfl, .inl ⟨rfl, _, sq_of (e9 _ _ hp8)⟩, ?_⟩
          unfold tCons
          refine ⟨.ref rd, rfl, rd, dx, _, rfl, e9 _ _ hx8, rfl, rd, dx, L, rfl, e9 _ _ hx8, sq_of (e9 _ _ hL8), hLr, fun t2 tk hs bo H10 ntk nhs hx10 ht10 htk10 hhs10 hbo10 k10 => ?_⟩
          have hp10 := k10 _ _ hpr (e9 _ _ hp8)
          refine ⟨pl, [], .ref t2, rfl, rfl, hp10, sz_lt (by decide), ?_⟩
          have htp : t2 ≠ pl := fun z => by rw [z, hp10] at ht10; cases ht10
          have hbp : bo ≠ pl := fun z => by rw [z, hp10] at hbo10; cases hbo10
          have htkp : tk ≠ pl := fun z => by rw [z, e9 _ _ hp8] at ntk; cases ntk
          have hhsp : hs ≠ pl := fun z => by rw [z, e9 _ _ hp8] at nhs; cases nhs
          exact ⟨rfl, fun a o h1 h2 h => by rw [upd_ne h2]; exact k10 _ _ h1 (e9 _ _ (k8 _ _ h1 h2 h)), t2, tk, hs, bo, by rw [upd_ne (Ne.symm hpr)]; exact hx10, upd_same, by rw [upd_ne htp]; exact ht10, by rw [upd_ne htkp]; exact htk10, by rw [upd_ne hhsp]; exact hhs10, by rw [upd_ne hbp]; exact hbo10⟩
      · refine ⟨false, ?_, fun z => (nomatch z), fun _ H9 e9 => ?_⟩
        · exact et_test (ev_is (ev_op (x := .int ((3 : Nat) : Int)) (y := .int ((rows3.map V.str).length : Int)) (ev_fld (ev_var rfl) hx8 rc.cls rc.at_ rfl) (ev_len (ev_var rfl) (sq_of hL8)) rv_I0) (by decide))
        · have q8 : ∀ {a o}, a ≠ rd → a ≠ pl → H6 a = some o → H9 a = some o := fun h1 h2 h => e9 _ _ (k8 _ _ h1 h2 (e7 _ _ h))
          have eH9 : Ex H H9 := fun a o h => q8 (fun z => by rw [z, nrd] at h; cases h) (fun z => by rw [z, nplH] at h; cases h) (e06 _ _ h)
          show tMake _ _ _ _ _ _ H9 _
          unfold tMake tCons
          refine ⟨.ref kl, rfl, fun xk dk hxk hdk hnk => ?_⟩
          have em : Ex H9 (upd (upd H9 dk (.own xk)) xk (.ins CK dk [])) := (Ex.new hdk).trans (Ex.new (by rw [upd_ne (Ne.symm hnk)]; exact hxk))
          refine ⟨xk, dk, kl, t, fl, p, rfl, upd_same, sq_of (em _ _ (q8 hkr2 (Ne.symm hpkl) hk6)), st_of (em _ _ (q8 htr (Ne.symm hptt) ht6)), sq_of (em _ _ (q8 hfr (Ne.symm hpf) hf6)), st_of (em _ _ (q8 hppr (Ne.symm hpp) hp6)), fun HA hKA kA => ⟨rfl, ?_⟩⟩
          have eA : Ex H9 HA := fun a o h => kA a o (fun z => by rw [z, hxk] at h; cases h) (em _ _ h)
          refine ⟨.ref pl, rfl, fun xp dp hxp hdp hnp => ?_⟩
          have ep : Ex HA (upd (upd HA dp (.own xp)) xp (.ins CP dp [])) := (Ex.new hdp).trans (Ex.new (by rw [upd_ne (Ne.symm hnp)]; exact hxp))
          have e9p : Ex H9 (upd (upd HA dp (.own xp)) xp (.ins CP dp [])) := eA.trans ep
          refine ⟨xp, dp, xk, pl, t2, tk, hs, bo, rfl, upd_same, sq_of (e9p _ _ (e9 _ _ hp8)), st_of (e9p _ _ (e9 _ _ ht8)), sq_of (e9p _ _ (e9 _ _ htk8)), sq_of (e9p _ _ (e9 _ _ hhs8)), st_of (e9p _ _ (e9 _ _ hbo8)), fun HB kB => ⟨rfl, ?_⟩⟩
          exact k xp HB (fresh_back (eH9.trans eA) hxp) fun a o h => kB a o (fun z => by
            have h2 := (eH9.trans eA) _ _ h
            rw [z, hxp] at h2
            cases h2) ((eH9.trans e9p) _ _ h)
end
end Cp

namespace Cp
open PySem PySem.Spec PyProof.Rows L2 Evl GN GZ
/-! the shelf -/
abbrev mS (j : Nat) : Stmt := inClass (top 95) j
structure SC (K : PySem.W.Frag) (C : Addr) : Prop where
  cls : Cls K C
  programs : NoAttr K C "programs"
  wishes : NoAttr K C "wishes"
  number : NoAttr K C "number"
  room : NoAttr K C "room"
  past : NoAttr K C "past"
  later : NoAttr K C "later"
  done : NoAttr K C "done"
def shF (a b : Addr) (n r : Int) (p l : Addr) (d : Int) : List (Str × V) := [("programs", .ref a), ("wishes", .ref b), ("number", .int n), ("room", .int r), ("past", .ref p), ("later", .ref l), ("done", .int d)]
def sh4 (a b : Addr) : List (Str × V) := [("programs", .ref a), ("wishes", .ref b), ("number", .int 1), ("room", .int 5)]
theorem sc_si : FnScope ["self"] ["self"] (defScope (mS 0)) := ⟨rfl, rfl, rfl, by decide +kernel, rfl, by decide +kernel, by decide +kernel⟩
def spSi (C : Addr) : Sp := fun vs H Q _ => ∃ x dx, vs = [.ref x] ∧ H x = some (.ins C dx []) ∧ ∀ a b p l H2, H a = none → H p = none → H l = none → H2 x = some (.ins C dx (shF a b 1 5 p l 0)) → H2 a = some (.dK []) → H2 b = some (.dK []) → H2 p = some (.lst []) → H2 l = some (.lst []) → [x, a, b, p, l].Nodup → (∀ y o, y ≠ x → H y = some o → H2 y = some o) → Q .non H2
section
variable {P : Program} {w : World} {K : PySem.W.Frag} {mg : Str → Option Value} {base : Heap} {f : Addr} {fd : FuncData} {C : Addr}
theorem ok_si {t : Tok} (F : MeP K "__init__" "Shelf.__init__" (mS 0) f fd) (sc : SC K C) (gP : mg "PROGRAMS" = some (.int 5 t)) : FnOk P w K mg base CX0 1 f fd ["self"] (spSi C) := by
  refine F.ok sc_si (fun vs H Q E h => ?_) (fun cdv A outer s H vs Q E hr h => ?_)
  · obtain ⟨x, dx, rfl, _⟩ := h
    rfl
  · obtain ⟨x, dx, rfl, hx, k⟩ := h
    refine ⟨_, pss_cons (by
        exact ps_asg (pe_tup (pa_cons pe_dnewK (pa_cons pe_dnewK pa_nil))) (pg_tup rfl (pgs_cons (pg_fld (pv 0)) (pgs_cons (pg_fld (pv 0)) pgs_nil)))) <| pss_cons (by
        exact ps_asg pe_int (pg_fld (pv 0))) <| pss_cons (by
        exact ps_asg (pe_glob (v := .int 5) (by rfl) gP ⟨_, rfl⟩) (pg_fld (pv 0))) <| pss_cons (by
        exact ps_asg (pe_tup (pa_cons (pe_lst pa_nil) (pa_cons (pe_lst pa_nil) pa_nil))) (pg_tup rfl (pgs_cons (pg_fld (pv 0)) (pgs_cons (pg_fld (pv 0)) pgs_nil)))) <| pss_one (by
        exact ps_asg pe_int (pg_fld (pv 0))), ?_⟩
    intro a ha b hb
    refine ⟨sz_of (n := 2) (by decide), fun T hT => ?_⟩
    have e1 : Ex H (upd (upd (upd H a (.dK [])) b (.dK [])) T (.tup [.ref a, .ref b])) := ((Ex.new ha).trans (Ex.new hb)).trans (Ex.new hT)
    have a3 := ((Ex.new (o := .dK []) hb).trans (Ex.new (o := .tup [V.ref a, .ref b]) hT)) _ _ (upd_same (H := H) (a := a) (o := .dK []))
    have b3 := (Ex.new (o := .tup [V.ref a, .ref b]) hT) _ _ (upd_same (H := upd H a (.dK [])) (a := b) (o := .dK []))
    have hab : a ≠ b := fun z => by rw [← z, upd_same] at hb; cases hb
    have hxa : x ≠ a := fun z => by rw [← z, hx] at ha; cases ha
    have hxb : x ≠ b := fun z => by rw [← z, Ex.new ha _ _ hx] at hb; cases hb
    refine ⟨T, _, rfl, st_of upd_same, rfl, .ref a, _, rfl, .ref x, rfl, x, C, dx, [], rfl, e1 _ _ hx, sc.cls, sc.programs, by decide, .ref b, _, rfl, .ref x, rfl, x, C, dx, _, rfl, upd_same, sc.cls, sc.wishes, (show (1 : Nat) < 1000 by decide), rfl, ?_⟩
    generalize upd (upd (upd H a (.dK [])) b (.dK [])) T (.tup [.ref a, .ref b]) = H3 at e1 a3 b3 ⊢
    dsimp only
    refine ⟨.ref x, rfl, x, C, dx, _, rfl, upd_same, sc.cls, sc.number, (show (2 : Nat) < 1000 by decide), ?_⟩
    refine ⟨.ref x, rfl, x, C, dx, _, rfl, upd_same, sc.cls, sc.room, (show (3 : Nat) < 1000 by decide), ?_⟩
    have k5 : ∀ y o, y ≠ x → H3 y = some o → (upd (upd (upd (upd H3 x (.ins C dx (putF "programs" (.ref a) []))) x (.ins C dx (putF "wishes" (.ref b) (putF "programs" (.ref a) [])))) x (.ins C dx (putF "number" (.int 1) (putF "wishes" (.ref b) (putF "programs" (.ref a) []))))) x (.ins C dx (putF "room" (.int 5) (putF "number" (.int 1) (putF "wishes" (.ref b) (putF "programs" (.ref a) [])))))) y = some o := fun y o hy h => by
      rw [upd_ne hy, upd_ne hy, upd_ne hy, upd_ne hy]
      exact h
    have x5 : (upd (upd (upd (upd H3 x (.ins C dx (putF "programs" (.ref a) []))) x (.ins C dx (putF "wishes" (.ref b) (putF "programs" (.ref a) [])))) x (.ins C dx (putF "number" (.int 1) (putF "wishes" (.ref b) (putF "programs" (.ref a) []))))) x (.ins C dx (putF "room" (.int 5) (putF "number" (.int 1) (putF "wishes" (.ref b) (putF "programs" (.ref a) [])))))) x = some (.ins C dx (sh4 a b)) := by
      rw [upd_same, show putF "room" (.int 5) (putF "number" (.int 1) (putF "wishes" (.ref b) (putF "programs" (.ref a) []))) = sh4 a b by kernel_rfl]
    generalize upd (upd (upd (upd H3 x (.ins C dx (putF "programs" (.ref a) []))) x (.ins C dx (putF "wishes" (.ref b) (putF "programs" (.ref a) [])))) x (.ins C dx (putF "number" (.int 1) (putF "wishes" (.ref b) (putF "programs" (.ref a) []))))) x (.ins C dx (putF "room" (.int 5) (putF "number" (.int 1) (putF "wishes" (.ref b) (putF "programs" (.ref a) []))))) = H5 at k5 x5 ⊢
    refine ⟨sz_of (n := 0) (by decide), fun p hp => ⟨sz_of (n := 0) (by decide), fun l hl => ⟨sz_of (n := 2) (by decide), fun T2 hT2 => ?_⟩⟩⟩
    have f1 := Ex.new (o := .lst []) hp
    have f2 := Ex.new (o := .lst []) hl
    have f3 := Ex.new (o := .tup [V.ref p, .ref l]) hT2
    have e5 := (f1.trans f2).trans f3
    have p6 := (f2.trans f3) _ _ upd_same
    have l6 := f3 _ _ upd_same
    refine ⟨T2, _, rfl, st_of upd_same, rfl, .ref p, _, rfl, .ref x, rfl, x, C, dx, _, rfl, e5 _ _ x5, sc.cls, sc.past, (show (4 : Nat) < 1000 by decide), .ref l, _, rfl, .ref x, rfl, x, C, dx, _, rfl, upd_same, sc.cls, sc.later, (show (5 : Nat) < 1000 by decide), rfl, ?_⟩
    have npx : x ≠ p := fun z => by rw [← z, x5] at hp; cases hp
    have nlx : x ≠ l := fun z => by rw [← z, f1 _ _ x5] at hl; cases hl
    have npl : p ≠ l := fun z => by rw [← z, upd_same] at hl; cases hl
    have a5 := k5 _ _ (Ne.symm hxa) a3
    have b5 := k5 _ _ (Ne.symm hxb) b3
    have nap : a ≠ p := fun z => by rw [← z, a5] at hp; cases hp
    have nbp : b ≠ p := fun z => by rw [← z, b5] at hp; cases hp
    have nal : a ≠ l := fun z => by rw [← z, f1 _ _ a5] at hl; cases hl
    have nbl : b ≠ l := fun z => by rw [← z, f1 _ _ b5] at hl; cases hl
    have k6 : ∀ y o, y ≠ x → H5 y = some o → (upd (upd (upd (upd H5 p (.lst [])) l (.lst [])) T2 (.tup [.ref p, .ref l])) x (.ins C dx (putF "past" (.ref p) (sh4 a b)))) y = some o := fun y o hy h => by
      rw [upd_ne hy]
      exact e5 _ _ h
    dsimp only
    refine ⟨.ref x, rfl, x, C, dx, _, rfl, upd_same, sc.cls, sc.done, (show (6 : Nat) < 1000 by decide), ?_⟩
    have bk : ∀ {y : Addr}, y ≠ x → H5 y = none → H y = none := fun {y} hyx hy => by
      cases h : H y with
      | none => rfl
      | some o =>
        have := k5 _ _ hyx (e1 _ _ h)
        rw [hy] at this
        cases this
    refine k a b p l _ ha (bk (Ne.symm npx) hp) (bk (Ne.symm nlx) (fresh_back f1 hl)) (by rw [upd_same, show putF "done" (.int 0) (putF "later" (.ref l) (putF "past" (.ref p) (sh4 a b))) = shF a b 1 5 p l 0 by kernel_rfl]) (by rw [upd_ne (Ne.symm hxa), upd_ne (Ne.symm hxa)]; exact k6 _ _ (Ne.symm hxa) a5) (by rw [upd_ne (Ne.symm hxb), upd_ne (Ne.symm hxb)]; exact k6 _ _ (Ne.symm hxb) b5) (by rw [upd_ne (Ne.symm npx), upd_ne (Ne.symm npx), upd_ne (Ne.symm npx)]; exact p6) (by rw [upd_ne (Ne.symm nlx), upd_ne (Ne.symm nlx), upd_ne (Ne.symm nlx)]; exact l6) (by simp [hxa, hxb, npx, nlx, hab, nap, nal, nbp, nbl, npl]) fun y o hy h => by
      rw [upd_ne hy, upd_ne hy]
      exact k6 _ _ hy (k5 _ _ hy (e1 _ _ h))
end
end Cp

namespace Cp
open PySem PySem.Spec PyProof.Rows L2 Evl GN GZ
theorem sc_ks : FnScope ["self"] ["self"] (defScope (mS 7)) := ⟨rfl, rfl, rfl, by decide +kernel, rfl, by decide +kernel, by decide +kernel⟩
/-- a copy of the state: two new dicts and the number -/
def spKs (C : Addr) : Sp := fun vs H Q _ => ∃ x dx a b n r p l d ks ws, vs = [.ref x] ∧ H x = some (.ins C dx (shF a b n r p l d)) ∧ H a = some (.dK ks) ∧ H b = some (.dK ws) ∧
  ∀ a2 b2 t H2, H a2 = none → H b2 = none → H t = none → Ex H H2 → H2 a2 = some (.dK ks) → H2 b2 = some (.dK ws) → H2 t = some (.tup [.ref a2, .ref b2, .int n]) → a2 ≠ b2 → Q (.ref t) H2
theorem sc_dp : FnScope ["self"] ["self"] (defScope (mS 26)) := ⟨rfl, rfl, rfl, by decide +kernel, rfl, by decide +kernel, by decide +kernel⟩
def spDp (C : Addr) : Sp := fun vs H Q _ => ∃ x dx a b n r p l d ps ls, vs = [.ref x] ∧ H x = some (.ins C dx (shF a b n r p l d)) ∧ H p = some (.lst ps) ∧ H l = some (.lst ls) ∧ ∀ t H2, H t = none → Ex H H2 → H2 t = some (.tup [.int (ps.length : Nat), .int (ls.length : Nat)]) → Q (.ref t) H2
section
variable {P : Program} {w : World} {K : PySem.W.Frag} {mg : Str → Option Value} {base : Heap} {f : Addr} {fd : FuncData} {C : Addr}
theorem ok_ks (F : MeP K "kept_state" "Shelf.kept_state" (mS 7) f fd) (sc : SC K C) (gD : mg "dict" = none) : FnOk P w K mg base CX0 1 f fd ["self"] (spKs C) := by
  refine F.ok sc_ks (fun vs H Q E h => ?_) (fun cdv A outer s H vs Q E hr h => ?_)
  · obtain ⟨x, dx, a, b, n, r, p, l, d, ks, ws, rfl, _⟩ := h
    rfl
  · obtain ⟨x, dx, a, b, n, r, p, l, d, ks, ws, rfl, hx, ha, hb, k⟩ := h
    refine ⟨_, pss_one (by
      exact ps_ret (pe_tup (pa_cons (pe_callTy call_dictD (by rfl) gD boot_dict (pa_cons (pe_fld (pv 0) rfl) pa_nil)) (pa_cons (pe_callTy call_dictD (by rfl) gD boot_dict (pa_cons (pe_fld (pv 0) rfl) pa_nil)) (pa_cons (pe_fld (pv 0) rfl) pa_nil))))), ?_⟩
    refine ⟨.ref x, rfl, x, C, dx, _, _, rfl, hx, sc.cls, sc.programs, rfl, a, ks, rfl, .inl ha, fun a2 h2 => ?_⟩
    have e1 := Ex.new (o := .dK ks) h2
    refine ⟨.ref x, rfl, x, C, dx, _, _, rfl, e1 _ _ hx, sc.cls, sc.wishes, rfl, b, ws, rfl, .inl (e1 _ _ hb), fun b2 h3 => ?_⟩
    have e2 := e1.trans (Ex.new (o := .dK ws) h3)
    refine ⟨.ref x, rfl, x, C, dx, _, _, rfl, e2 _ _ hx, sc.cls, sc.number, rfl, sz_of (n := 3) (by decide), fun t ht => ?_⟩
    have e3 := Ex.new (o := .tup [V.ref a2, .ref b2, .int n]) ht
    exact k a2 b2 t _ h2 (fresh_back e1 h3) (fresh_back e2 ht) (e2.trans e3) (((Ex.new (o := .dK ws) h3).trans e3) _ _ upd_same) (e3 _ _ upd_same) upd_same fun z => by
      rw [← z, upd_same] at h3
      cases h3
theorem ok_dp (F : MeP K "depth" "Shelf.depth" (mS 26) f fd) (sc : SC K C) (gL : mg "len" = none) : FnOk P w K mg base CX0 1 f fd ["self"] (spDp C) := by
  refine F.ok sc_dp (fun vs H Q E h => ?_) (fun cdv A outer s H vs Q E hr h => ?_)
  · obtain ⟨x, dx, a, b, n, r, p, l, d, ps, ls, rfl, _⟩ := h
    rfl
  · obtain ⟨x, dx, a, b, n, r, p, l, d, ps, ls, rfl, hx, hp, hl, k⟩ := h
    refine ⟨_, pss_one (by
      exact ps_ret (pe_tup (pa_cons (pe_callB call_len_seq (by rfl) gL PySem.boot_len (pa_cons (pe_fld (pv 0) rfl) pa_nil)) (pa_cons (pe_callB call_len_seq (by rfl) gL PySem.boot_len (pa_cons (pe_fld (pv 0) rfl) pa_nil)) pa_nil)))), ?_⟩
    exact s_retU (xs := [.int (ps.length : Nat), .int (ls.length : Nat)]) (eu_tup (ea_cons (ev_len (ev_fld (ev_var rfl) hx sc.cls sc.past rfl) (sq_of hp)) (ea_cons (ev_len (ev_fld (ev_var rfl) hx sc.cls sc.later rfl) (sq_of hl)) ea_nil)) (show (2 : Nat) ≤ 100000 by decide)) fun t H2 ht e h => k t H2 ht e h
end
end Cp

namespace Cp
open PySem PySem.Spec PyProof.Rows L2 Evl GN GZ
theorem sc_nm : FnScope ["self"] ["self"] (defScope (mS 8)) := ⟨rfl, rfl, rfl, by decide +kernel, rfl, by decide +kernel, by decide +kernel⟩
/-- the names, sorted -/
def spNm (C : Addr) : Sp := fun vs H Q _ => ∃ x dx a b n r p l d, ∃ (ks : List (L2.Key × V)) (zs : List Str), vs = [.ref x] ∧ H x = some (.ins C dx (shF a b n r p l d)) ∧ H a = some (.dK ks) ∧ ks.map (·.1) = zs.map Sum.inr ∧ zs.length < 64 ∧
  ∀ ys q H2, ys.Perm zs → sortedS ys = true → H q = none → Ex H H2 → H2 q = some (.lst (ys.map V.str)) → Q (.ref q) H2
theorem sc_ln : FnScope ["self"] ["self"] (defScope (mS 1)) := ⟨rfl, rfl, rfl, by decide +kernel, rfl, by decide +kernel, by decide +kernel⟩
def spSl (C : Addr) : Sp := fun vs H Q _ => ∃ x dx a b n r p l d, ∃ (ks : List (L2.Key × V)), vs = [.ref x] ∧ H x = some (.ins C dx (shF a b n r p l d)) ∧ H a = some (.dK ks) ∧ RetV (.int (ks.length : Nat)) H Q
section
variable {P : Program} {w : World} {K : PySem.W.Frag} {mg : Str → Option Value} {base : Heap} {f : Addr} {fd : FuncData} {C : Addr}
theorem ok_nm (F : MeP K "names" "Shelf.names" (mS 8) f fd) (sc : SC K C) (gS : mg "sorted" = none) (gL : mg "list" = none) : FnOk P w K mg base CX0 1 f fd ["self"] (spNm C) := by
  refine F.ok sc_nm (fun vs H Q E h => ?_) (fun cdv A outer s H vs Q E hr h => ?_)
  · obtain ⟨x, dx, a, b, n, r, p, l, d, ks, zs, rfl, _⟩ := h
    rfl
  · obtain ⟨x, dx, a, b, n, r, p, l, d, ks, zs, rfl, hx, ha, hz, hl, k⟩ := h
    refine ⟨_, pss_one (by
      exact ps_ret (pe_callB cr_sortedS (by rfl) gS boot_sorted (pa_cons (pe_callTy (call_listD rfl) (by rfl) gL boot_list (pa_cons (pe_fld (pv 0) rfl) pa_nil)) pa_nil))), ?_⟩
    refine ⟨.ref x, rfl, x, C, dx, _, _, rfl, hx, sc.cls, sc.programs, rfl, a, ks, rfl, .inl ha, fun q hq => ?_⟩
    have hk : (ks.map fun kv => kV kv.1) = zs.map V.str := by
      have h2 : (ks.map (·.1)).map kV = (zs.map Sum.inr).map kV := by rw [hz]
      rw [List.map_map, List.map_map] at h2
      exact h2
    rw [hk]
    refine ⟨q, zs, rfl, sq_of upd_same, hl, fun ys t hp hs ht => ?_⟩
    exact k ys t _ hp hs (fresh_back (Ex.new hq) ht) ((Ex.new hq).trans (Ex.new ht)) upd_same
theorem ok_sl (F : MeP K "__len__" "Shelf.__len__" (mS 1) f fd) (sc : SC K C) (gL : mg "len" = none) : FnOk P w K mg base CX0 1 f fd ["self"] (spSl C) := by
  refine F.ok sc_ln (fun vs H Q E h => ?_) (fun cdv A outer s H vs Q E hr h => ?_)
  · obtain ⟨x, dx, a, b, n, r, p, l, d, ks, rfl, _⟩ := h
    rfl
  · obtain ⟨x, dx, a, b, n, r, p, l, d, ks, rfl, hx, ha, k⟩ := h
    refine ⟨_, pss_one (by
      exact ps_ret (pe_callB call_lenD (by rfl) gL PySem.boot_len (pa_cons (pe_fld (pv 0) rfl) pa_nil))), ?_⟩
    exact ⟨.ref x, rfl, x, C, dx, _, _, rfl, hx, sc.cls, sc.programs, rfl, a, ks, rfl, ha, k H (Ex.refl _)⟩
end
end Cp

/-! Own classes over LookupError: their making, their fields (the kit's words are of ValueError). -/
namespace PySem
namespace GL
open PySem.W PySem.Calls PyProof.Rows PySem.HandSPX
open Builtin Builtin.ObjectAttr
theorem refsLE_of : ∀ l : List Value, refsLE l = true → (∃ cs : List Addr, l = cs.map Value.ref ++ leTail)
  | .ref c :: r, e => by
    obtain ⟨cs, h⟩ := refsLE_of r e
    exact ⟨c :: cs, by rw [h]; rfl⟩
  | [], e => ⟨[], beq_iff_eq.mp e⟩
  | .none :: _, e => ⟨[], beq_iff_eq.mp e⟩
  | .ellipsis :: _, e => ⟨[], beq_iff_eq.mp e⟩
  | .notImplemented :: _, e => ⟨[], beq_iff_eq.mp e⟩
  | .bool _ :: _, e => ⟨[], beq_iff_eq.mp e⟩
  | .int _ _ :: _, e => ⟨[], beq_iff_eq.mp e⟩
  | .float _ _ :: _, e => ⟨[], beq_iff_eq.mp e⟩
  | .str _ _ :: _, e => ⟨[], beq_iff_eq.mp e⟩
  | .bytes _ _ :: _, e => ⟨[], beq_iff_eq.mp e⟩
  | .type _ :: _, e => ⟨[], beq_iff_eq.mp e⟩
  | .builtin _ :: _, e => ⟨[], beq_iff_eq.mp e⟩
theorem pass_le (self : Value) : ∀ cs : List Addr, refuseLoop self "__setattr__" (cs.map Value.ref ++ leTail) = pure ()
  | [] => F.store_LookupError.passes self
  | c :: cs => by
    rw [List.map_cons, List.cons_append, refuseLoop_ref]
    exact pass_le self cs
theorem refsLE_pass (self : Value) (l : List Value) (e : refsLE l = true) : refuseLoop self "__setattr__" l = pure () := by
  obtain ⟨cs, rfl⟩ := refsLE_of l e
  exact pass_le self cs
theorem has_le (X : String) : ∀ cs : List Addr, (cs.map Value.ref ++ leTail).contains (.type X) = leTail.contains (.type X)
  | [] => rfl
  | c :: cs => by
    rw [List.map_cons, List.cons_append, List.contains_cons, has_le X cs]
    rfl
theorem refsLE_contains (X : String) (l : List Value) (e : refsLE l = true) : l.contains (.type X) = leTail.contains (.type X) := by
  obtain ⟨cs, rfl⟩ := refsLE_of l e
  exact has_le X cs
theorem refsLE_ne {l : List Value} (e : refsLE l = true) : l.isEmpty = false := by
  cases l with
  | nil => exact absurd e (by decide)
  | cons _ _ => rfl
section
variable {prog : Program} {w : World} {A : Around} {E : Value → Shared → Prop} {R : Result → Shared → Prop} {hp : Heap} {g : Array GenState} {d : Drawn} {t : Nat} {os : OsState}
theorem exc_osaL {K : W.Frag} {name : Str} {tk : Tok} {v : Value} {x C : Addr} {fv : Array Value} {cd : ClassData}
    (X : K.In hp) (hx : hp.get? x = some { cls := .ref C, data := .fields fv }) (hcd : W.clsIn K C = some cd) (hm : refsLE cd.mro = true) (hh : cd.hasDict = true) (ha : W.findIn K (.ref C) name = some none)
    (hq : ∀ h' tk' dx, (∀ b o, b ≠ x → hp.get? b = some o → h'.get? b = some o) → hp.objs.size ≤ dx → dx ≠ x → h'.get? x = some { cls := .ref C, dict := some dx, data := .fields fv } →
      h'.Ns1 dx (fun y => if y = name then some v else none) → R (.ok (.ret .none)) ⟨h', g, d, tk', os⟩) :
    codeAny (model prog w) A (.call (.builtin "object.__setattr__") ⟨[.ref x, .str name tk, v], []⟩) R ⟨hp, g, d, t, os⟩ := by
  have I : W.InstAt hp x { cls := .ref C, data := .fields fv } C none := ⟨hx, rfl, rfl, trivial⟩
  have SF := F.store_object
  have ne := refsLE_ne hm
  have hob : cd.mro.contains (.type "object") = true := (refsLE_contains "object" _ hm).trans (by decide +kernel)
  have hxs : x ≠ hp.objs.size := Nat.ne_of_lt (Heap.lt_size hx)
  have sub : W.Looks (model prog w) hp (isInstance (.ref x) (.type "object")) true := I.type.andThen (W.looks_mroIn X (by unfold W.mroIn; rw [hcd, Option.bind_some, if_neg (by rw [ne]; decide), hob]))
  refine codeAny_call_builtin SF.slot.plain SF.entry (@W.check_slot (model prog w) _ _ ⟨hp, g, d, t, os⟩ "object.__setattr__" "object" "__setattr__" (.ref x) [.str name tk, v] [] _ SF.kind SF.split sub (SF.args (.ref x) (.str name tk) v) ?_)
  have hmr : W.Looks (model prog w) hp (mroOf (.ref C)) cd.mro := (W.looks_clsIn X hcd).andThen .now
  have L3 : W.Looks (model prog w) hp (storeTaker? none) none := .now
  have hcls : W.Looks (model prog w) hp (classData C) cd := W.looks_clsIn X hcd
  rw [W.osa_eq, refuse_eq]
  refine wpAny_bind (wpAny_bind (I.type.at (wpAny_bind (hmr.at ?_))))
  rw [refsLE_pass _ _ hm]
  refine wpAny_pure (wpAny_bind (I.type.at (wpAny_bind ((W.looks_findIn X ha).at (wpAny_bind (L3.at ?_))))))
  show wpAny _ _ (storeInOwnDict (.ref x) (.ref C) (.str name tk) name v false) _ _ _
  obtain ⟨nm, bs, mro, ns, qn, hd, sn, sb, ab, col, del⟩ := cd
  dsimp only at hh
  subst hh
  unfold storeInOwnDict ownDictForStores
  repeat (first | with_reducible refine store_in_new ?_ ?_ | with_reducible refine wpAny_loadPart_at hx ?_ | with_reducible refine hcls.at ?_ | wp_step)
  · exact ⟨_, #[], _, (Heap.get?_update_ne _ _ _ _ hxs.symm).trans (Heap.get?_push_at rfl rfl), rfl, fun e he => absurd he (by simp), fun _ => rfl⟩
  · intro h' tk' hn' hs
    have hx₁ : (hp.push { cls := .type "dict", data := .dict #[] }).get? x = some { cls := .ref C, data := .fields fv } := Heap.get?_push_of_some _ hx
    refine hq h' tk' hp.objs.size (fun b o hb ho => ?_) (Nat.le_refl _) hxs.symm ?_ hn'
    · exact (hs.2 b (Nat.ne_of_lt (Heap.lt_size ho))).trans ((Heap.get?_update_ne _ _ _ _ hb).trans (Heap.get?_push_of_some _ ho))
    · exact (hs.2 x hxs).trans (Heap.get?_update_self _ hx₁ rfl)
theorem osa_oldL {K : W.Frag} {name : Str} {tk : Tok} {v : Value} {x C dx : Addr} {fv : Array Value} {cd : ClassData} {m0 : Str → Option Value} {nl : List Str}
    (X : K.In hp) (hx : hp.get? x = some { cls := .ref C, dict := some dx, data := .fields fv }) (hns : hp.Ns1 dx m0) (hw : Within m0 nl) (hz : nl.length ≤ 1000) (hcd : W.clsIn K C = some cd) (hm : refsLE cd.mro = true) (hh : cd.hasDict = true)
    (ha : W.findIn K (.ref C) name = some none)
    (hq : ∀ h' tk', (∀ b o, b ≠ dx → hp.get? b = some o → h'.get? b = some o) → h'.Ns1 dx (fun y => if y = name then some v else m0 y) → R (.ok (.ret .none)) ⟨h', g, d, tk', os⟩) :
    codeAny (model prog w) A (.call (.builtin "object.__setattr__") ⟨[.ref x, .str name tk, v], []⟩) R ⟨hp, g, d, t, os⟩ := by
  obtain ⟨oD, esD, epD, hoD, hdD, _⟩ := hns.count hw
  have I : W.InstAt hp x { cls := .ref C, dict := some dx, data := .fields fv } C (some oD) := ⟨hx, rfl, rfl, hoD⟩
  have SF := F.store_object
  have ne := refsLE_ne hm
  have hob : cd.mro.contains (.type "object") = true := (refsLE_contains "object" _ hm).trans (by decide +kernel)
  have sub : W.Looks (model prog w) hp (isInstance (.ref x) (.type "object")) true := I.type.andThen (W.looks_mroIn X (by unfold W.mroIn; rw [hcd, Option.bind_some, if_neg (by rw [ne]; decide), hob]))
  refine codeAny_call_builtin SF.slot.plain SF.entry (@W.check_slot (model prog w) _ _ ⟨hp, g, d, t, os⟩ "object.__setattr__" "object" "__setattr__" (.ref x) [.str name tk, v] [] _ SF.kind SF.split sub (SF.args (.ref x) (.str name tk) v) ?_)
  have hmr : W.Looks (model prog w) hp (mroOf (.ref C)) cd.mro := (W.looks_clsIn X hcd).andThen .now
  have L3 : W.Looks (model prog w) hp (storeTaker? none) none := .now
  have hcls : W.Looks (model prog w) hp (classData C) cd := W.looks_clsIn X hcd
  rw [W.osa_eq, refuse_eq]
  refine wpAny_bind (wpAny_bind (I.type.at (wpAny_bind (hmr.at ?_))))
  rw [refsLE_pass _ _ hm]
  refine wpAny_pure (wpAny_bind (I.type.at (wpAny_bind ((W.looks_findIn X ha).at (wpAny_bind (L3.at ?_))))))
  show wpAny _ _ (storeInOwnDict (.ref x) (.ref C) (.str name tk) name v false) _ _ _
  obtain ⟨nm, bs, mro, ns, qn, hd, sn, sb, ab, col, del⟩ := cd
  dsimp only at hh
  subst hh
  unfold storeInOwnDict ownDictForStores
  repeat (first | with_reducible refine PySem.OEX.store_in_old hns hw hz ?_ | with_reducible refine wpAny_loadPart_at hx ?_ | with_reducible refine hcls.at ?_ | wp_step)
  intro h' tk' hn' hs
  exact hq h' tk' (fun b o hb ho => (hs.2 b hb).trans ho) hn'
end
end GL
end PySem
namespace L2
open PySem PySem.Spec PyProof.Rows
/-- what the written part says of such a class -/
structure OexL (K : PySem.W.Frag) (C : Addr) : Prop where
  cls : ∃ nm q N bs bm sn sub ab col dd k0 k1 k2 k3 k5, K.lookup C = some (excClassObj nm q C N bs bm true sn sub ab col dd k0 k1 k2 k3 k5 "LookupError.__new__") ∧ PySem.GL.refsLE bm = true
  sa : PySem.W.findIn K (.ref C) "__setattr__" = some (some (.builtin "object.__setattr__"))
  exC : PySem.W.subIn K (.ref C) (.type "BaseException") = some true
  tyC : PySem.W.typeIn K (.ref C) = some (.type "type")
  kC : PySem.W.keepIn K (.ref C) = true
section
variable {X : Cx} {pins : List (Addr × Obj)} {σ : St} {H : Hp} {s : Shared} {a C dx : Addr} {f : Str} {y : V} {u : Value} {fs : List (Str × V)} {Q : Unit → Shared → Prop} {E : Value → Shared → Prop} {A : Around}
theorem ostL_new (T : OexL X.K C) (I : Inv X pins σ H s) (e : H a = some (exo a C none)) (hno : PySem.W.findIn X.K (.ref C) f = some none) (ry : RelV y u)
    (h : ∀ dx s', H dx = none → dx ≠ a → Inv X pins σ (upd (upd H dx (exd dx [(f, y)])) a (exo a C (some dx))) s' → Q () s') : wpAny (model X.prog X.w) A (setAttr (.ref a) f u) Q E s := by
  obtain ⟨nm, q, N, bs, bm, sn, sub, ab, col, dd, k0, k1, k2, k3, k5, hC, hbm⟩ := T.cls
  have hcl : PySem.W.clsIn X.K C = some { name := nm, bases := bs, mro := .ref C :: bm, ns := N, qualname := q, hasDict := true, slotNames := sn, subclasses := sub, abstract := ab, collection := col, hasDel := false } := by unfold PySem.W.clsIn; rw [hC] <;> rfl
  obtain ⟨t1, ho⟩ := exo_at I.hok e
  obtain ⟨hp, g, d, t, os⟩ := s
  refine PySem.W.set_plain I.kIn (ox := { cls := .ref C, dict := none, data := .fields #[.ref t1, .none, .none, .none, .bool false, .none] }) (od := none) ⟨ho, rfl, rfl, trivial⟩ T.sa ?_
  refine PySem.GL.exc_osaL I.kIn ho hcl (show PySem.GL.refsLE (.ref C :: bm) = true from hbm) rfl hno (fun h' tk' dx k dn dne hx hn => ?_)
  have hnd : H dx = none := I.hok.fresh dn
  have nd : ∀ {b : Addr} {o : Obj}, hp.get? b = some o → b ≠ dx := fun {b o} q => Nat.ne_of_lt (Nat.lt_of_lt_of_le (Heap.lt_size q) dn)
  have na : ∀ {b : Addr}, H b = none → b ≠ a := fun {b} n z => by
    rw [z, e] at n
    cases n
  have Un1 : Un X.fs [] H (upd (upd H dx (exd dx [(f, y)])) a (exo a C (some dx))) hp h' := {
    keep := fun b o q n _ _ => k b o (na n) q
    slot := fun b o q n _ _ => ⟨o.slots, k b o (na n) q⟩
    free := fun b o q n _ => by rw [upd_ne (na n), upd_ne (nd q)]; exact n
    there := fun b o q _ => by
      by_cases hb : b = a
      · exact ⟨_, by rw [hb]; exact hx⟩
      · exact ⟨o, k b o hb q⟩
    tups := fun b xs q => by rw [upd_ne (at_ne e q exo_tup), upd_ne (ne_of_none q hnd)]; exact q
    frzs := fun b o v q => by rw [upd_ne (at_ne e q exo_frz), upd_ne (ne_of_none q hnd)]; exact q
    tbls := fun b ps q => ⟨#[], by rw [upd_ne (at_ne e q exo_tbl), upd_ne (ne_of_none q hnd), q]; simp⟩ }
  refine h dx _ hnd dne (I.un (t' := tk') Un1 fun b o q => ?_)
  by_cases hb : b = a
  · subst hb
    rw [upd_same] at q
    cases q
    exact exo_ok hx
  · rw [upd_ne hb] at q
    by_cases hd : b = dx
    · subst hd
      rw [upd_same] at q
      cases q
      exact exd_ok hn (relO_put (fs := []) ry fun g => True.intro)
    · rw [upd_ne hd] at q
      exact (I.hok b o q).stay (fun c v hc z => k c v (by
          rcases hc with hc | hc
          · rw [hc]
            exact hb
          · exact at_ne e hc exo_own) z)
        (fun c hc => by rw [upd_ne (at_ne e hc exo_own), upd_ne (ne_of_none hc hnd)]; exact hc) (fun c xs hc => by rw [upd_ne (at_ne e hc exo_tup), upd_ne (ne_of_none hc hnd)]; exact hc)
theorem ostL_old (T : OexL X.K C) (I : Inv X pins σ H s) (e : H a = some (exo a C (some dx))) (ed : H dx = some (exd dx fs)) (hl : fs.length ≤ 900) (hno : PySem.W.findIn X.K (.ref C) f = some none) (ry : RelV y u)
    (h : ∀ s', Inv X pins σ (upd H dx (exd dx ((f, y) :: fs))) s' → Q () s') : wpAny (model X.prog X.w) A (setAttr (.ref a) f u) Q E s := by
  obtain ⟨nm, q, N, bs, bm, sn, sub, ab, col, dd, k0, k1, k2, k3, k5, hC, hbm⟩ := T.cls
  have hcl : PySem.W.clsIn X.K C = some { name := nm, bases := bs, mro := .ref C :: bm, ns := N, qualname := q, hasDict := true, slotNames := sn, subclasses := sub, abstract := ab, collection := col, hasDel := false } := by unfold PySem.W.clsIn; rw [hC] <;> rfl
  obtain ⟨t1, ho⟩ := exo_at I.hok e
  obtain ⟨mA, hns, rel⟩ := exd_at I.hok ed
  have hw := within_of rel
  obtain ⟨hp, g, d, t, os⟩ := s
  obtain ⟨oD, _, _, hoD, _, _⟩ := hns.count hw
  refine PySem.W.set_plain I.kIn (ox := { cls := .ref C, dict := some dx, data := .fields #[.ref t1, .none, .none, .none, .bool false, .none] }) (od := some oD) ⟨ho, rfl, rfl, hoD⟩ T.sa ?_
  refine PySem.GL.osa_oldL I.kIn ho hns hw (by rw [List.length_map]; omega) hcl (show PySem.GL.refsLE (.ref C :: bm) = true from hbm) rfl hno (fun h' tk' k hn => ?_)
  have hd : ∃ o, h'.get? dx = some o := by
    obtain ⟨o, _, _, e', _⟩ := hn
    exact ⟨o, e'⟩
  exact h _ (I.write (t' := tk') (x := dx) (e := dx) (o := exd dx ((f, y) :: fs)) (by rw [ed]; exact True.intro) (.inl rfl) k hd (exd_ok hn (relO_put ry rel)))
end
/-- self.f = e -/
def tOstL (K : PySem.W.Frag) (f : Str) (to te : TE) : TS := fun D σ H => te σ H fun y H1 => to σ H1 fun x H2 => ∃ a C : Addr, x = .ref a ∧ OexL K C ∧ PySem.W.findIn K (.ref C) f = some none ∧
  ((H2 a = some (exo a C none) ∧ ∀ dx, H2 dx = none → dx ≠ a → D.nx σ (upd (upd H2 dx (exd dx [(f, y)])) a (exo a C (some dx)))) ∨
    ∃ (dx : Addr) (fs : List (Str × V)), H2 a = some (exo a C (some dx)) ∧ H2 dx = some (exd dx fs) ∧ fs.length ≤ 900 ∧ D.nx σ (upd H2 dx (exd dx ((f, y) :: fs))))
section
variable {X : Cx} {o e : Expr} {es : List Expr} {to te : TE} {ta : TA} {f : Str} {p p' p1 p2 pos : Pos}
theorem ps_ostL (ho : PE X o to) (he : PE X e te) (hs : swapsWith e (some (.Attribute o f p')) pos.line X.env = pure false := by rfl) : PS X (.Assign [.Attribute o f p'] e pos) (tOstL X.K f to te) := by
  refine ⟨fun pins s σ H D I h => ?_⟩
  refine plainObj_wpAny_Assign_Attribute (thn (he.run pins s σ H _ I h) fun v s1 ⟨y, H1, I1, r1, q1⟩ => thn (ho.run pins s1 σ H1 _ I1 q1) fun u s2 ⟨x, H2, I2, r2, a, C, ex, T, hno, q⟩ => ?_) hs
  subst ex
  obtain rfl : u = Value.ref a := r2
  rcases q with ⟨ea, q⟩ | ⟨dx, fs, ea, ed, hl, q⟩
  · exact ostL_new T I2 ea hno r1 fun dx s' n ne J => ⟨σ, _, J, q dx n ne⟩
  · exact ostL_old T I2 ea ed hl hno r1 fun s' J => ⟨σ, _, J, q⟩
theorem pmk_oexL {CX : CXT} {x : Str} {C fI : Addr} {k : Nat} {fd : FuncData} {ps : List Str} {sp : Sp} {ds : List Value} {dvs : List V} (T : OexL X.K C) (iC : PySem.W.findIn X.K (.ref C) "__init__" = some (some (.ref fI))) (tI : PySem.W.typeIn X.K (.ref fI) = some (.type "function"))
    (F1 : FnOk X.prog X.w X.K X.mg X.base CX k fI fd ps sp) (hr : Room (k + 1) X.A) (hb : Binds X.K fd ps ds) (hd : Vals dvs ds) (hx : Passes CX X (fun _ _ _ => False)) (hg : Gl X x) (hm : X.mg x = some (.ref C)) (ha : PA X (e :: es) ta)
    (hdb : (x == ("__debug__" : Str)) = false := by decide) (he : starEach (e :: es) X.env = (false, eval e X.env) :: starEach es X.env := by rfl) (hpl : (backTo pos (starEach es X.env)).any (·.1) = false := by rfl) :
    PMk X (.Call (.Name x p) (e :: es) [] pos) (tMkO C sp dvs ta) := by
  intro pins s σ H Q I h
  obtain ⟨nm, q, N, bs, bm, sn, sub, ab, col, dd, k0, k1, k2, k3, k5, hC, hbm⟩ := T.cls
  refine wpAny_Call_Name_kw (ld_glob I hg hm ?_ hdb)
  refine PySem.W.callWith_K (h₀ := X.base) I.ok.mod.kin T.kC (thn (ha.run pos pins s σ H _ I h) fun us s1 ⟨vs, H1, I1, r1, hz, q1⟩ => ⟨I1.kIn, ?_⟩) he hpl
  show wpAny _ _ (call (.ref C) us) _ _ _
  obtain ⟨hp, g, dr, tk, os⟩ := s1
  have hsz : hp.objs.size ≤ hp.objs.size + 1 := Nat.le_succ _
  have hn : H1 (hp.objs.size + 1) = none := I1.hok.fresh hsz
  have hq := q1 (hp.objs.size + 1) hn
  have kk : ∀ b o, hp.get? b = some o → ((hp.push (PySem.W.kdv_tup us)).push (PySem.HandSPX.excO C hp.objs.size)).get? b = some o := fun b o e => Heap.get?_push_of_some _ (Heap.get?_push_of_some _ e)
  have hget : ((hp.push (PySem.W.kdv_tup us)).push (PySem.HandSPX.excO C hp.objs.size)).get? (hp.objs.size + 1) = some (PySem.HandSPX.excO C hp.objs.size) := by heap_get
  have I2 : Inv X pins σ (upd H1 (hp.objs.size + 1) (exo (hp.objs.size + 1) C none)) ⟨(hp.push (PySem.W.kdv_tup us)).push (PySem.HandSPX.excO C hp.objs.size), g, dr, tk, os⟩ :=
    I1.laid (t' := tk) (a := hp.objs.size + 1) (o := exo (hp.objs.size + 1) C none) (h' := (hp.push (PySem.W.kdv_tup us)).push (PySem.HandSPX.excO C hp.objs.size)) kk hsz (exo_ok hget)
  have r2 : Vals (V.ref (hp.objs.size + 1) :: (vs ++ dvs)) (Value.ref (hp.objs.size + 1) :: (us ++ ds)) := .cons rfl (r1.append hd)
  have hl : (Value.ref (hp.objs.size + 1) :: us ++ ds).length = ps.length := by
    have e := r2.length
    rw [F1.len _ _ _ _ hq] at e
    exact e.symm
  have hus : us.length ≤ sizeLine := by
    rw [← Paired.length r1, sizeLine_eq]
    omega
  refine wpAny_call (PySem.HandSPX.call_own F.excBase_LookupError (fun Y => PySem.GL.refsLE_contains Y bm hbm) (I1.kIn _ _ hC) (PySem.W.looks_findIn I1.kIn iC) (fun self => PySem.W.bind_fn I1.kIn self tI) hus
    (codeAny_mono (F1.run _ X.stack _ _ ⟨Value.ref (hp.objs.size + 1) :: us, []⟩ (Value.ref (hp.objs.size + 1) :: (us ++ ds)) _ _ (fun _ _ _ => False) (hr.make C us []) (I2.env0.make C us []) (hb _ (Value.ref (hp.objs.size + 1) :: us) I2.kIn hl) r2 hq) fun r s' hq' => ?_))
  cases r with
  | error er => exact hx pins σ _ _ er s' I2 hq'
  | ok fl =>
    cases fl with
    | ret u =>
      obtain ⟨v, H2, os2, bare2, un2, hok2, rv, ev, d, fs, ea, ed, hd1, q2⟩ := hq'
      subst ev
      obtain ⟨h2, g2, d2, t2, os'⟩ := s'
      exact ⟨rv, mk_end (raises_own T.exC T.tyC) I1 hsz kk un2 hok2 os2 bare2 ea ed hd1 q2⟩
    | next => exact False.elim hq'
    | brk => exact False.elim hq'
    | cont => exact False.elim hq'
end
end L2

namespace Cp
open PySem PySem.Spec PyProof.Rows L2 Evl GN GZ
/-! the two errors that the law meets -/
abbrev mFu : Stmt := inClass (top 17) 0
theorem sc_Fu : FnScope ["self", "bound"] ["self", "bound"] (defScope mFu) := ⟨rfl, rfl, rfl, by decide +kernel, rfl, by decide +kernel, by decide +kernel⟩
/-- what a Full holds -/
def fFu (v : V) : List (Str × V) := [("tag", .str "Full"), ("bound", v)]
def spFu (C : Addr) : Sp := fun vs H Q _ => ∃ a v, vs = [.ref a, v] ∧ H a = some (exo a C none) ∧ ∀ d H2, H d = none → d ≠ a → H2 a = some (exo a C (some d)) → H2 d = some (exd d (fFu v)) → (∀ b, b ≠ a → b ≠ d → H2 b = H b) → Q .non H2
section
variable {P : Program} {w : World} {K : PySem.W.Frag} {mg : Str → Option Value} {base : Heap} {f : Addr} {fd : FuncData} {C : Addr}
theorem ok_Fu (F : MeP K "__init__" "Full.__init__" mFu f fd) (T : OexC K C) (nf : PySem.W.findIn K (.ref C) "bound" = some none) (nt : PySem.W.findIn K (.ref C) "tag" = some none) : FnOk P w K mg base CX0 1 f fd ["self", "bound"] (spFu C) := by
  refine F.ok sc_Fu (fun vs H Q E h => ?_) (fun cdv A outer s H vs Q E hr h => ?_)
  · obtain ⟨a, v, rfl, _⟩ := h
    rfl
  · obtain ⟨a, v, rfl, ha, k⟩ := h
    refine ⟨_, pss_cons (by
        exact ps_ost (pv 0) (pv 1)) <| pss_one (by
        exact ps_ost (pv 0) pe_str), ?_⟩
    refine ⟨v, rfl, .ref a, rfl, a, C, rfl, T, nf, .inl ⟨ha, fun d hd hda => ?_⟩⟩
    refine ⟨.ref a, rfl, a, C, rfl, T, nt, .inr ⟨d, [("bound", v)], upd_same, by rw [upd_ne hda, upd_same], by simp, ?_⟩⟩
    refine k d _ hd hda (by rw [upd_ne (Ne.symm hda), upd_same]) upd_same fun b hb hbd => ?_
    rw [upd_ne hbd, upd_ne hb, upd_ne hbd]
end
/-- a new Full flies: all stands -/
theorem tmk_Fu {CB : Addr} {σ : L2.St} {H : Hp} {ta : TA} {v : V} {W : XK} (h : EvA ta σ H [v]) (k : ∀ d H', H' d = some (.xd (fFu v)) → Ex H H' → W (.ref CB) (some d) H') : tMkO CB (spFu CB) [] ta σ H W := by
  unfold tMkO
  refine h H (Ex.refl H) _ fun H2 e2 => ⟨by simp, fun a ha => ⟨a, v, rfl, upd_same, fun d H3 hd hda h3a h3d hold => by
    have hd2 : H2 d = none := by rw [upd_ne hda] at hd; exact hd
    have keep : ∀ b o, H2 b = some o → upd (del H3 a) d (.xd (fFu v)) b = some o := fun b o hb => by
      have hbd : b ≠ d := fun z => by rw [z, hd2] at hb; cases hb
      have hba : b ≠ a := fun z => by rw [z, ha] at hb; cases hb
      rw [upd_ne hbd, del_ne hba, hold b hba hbd, upd_ne hba]
      exact hb
    exact ⟨rfl, d, fFu v, h3a, h3d, hd2, k d _ upd_same (e2.trans keep)⟩⟩⟩
abbrev mNp : Stmt := inClass (top 21) 0
theorem sc_Np : FnScope ["self", "name"] ["self", "name"] (defScope mNp) := ⟨rfl, rfl, rfl, by decide +kernel, rfl, by decide +kernel, by decide +kernel⟩
/-- what a NoProgram holds -/
def fNp (v : V) : List (Str × V) := [("tag", .str "NoProgram"), ("name", v)]
def spNp (C : Addr) : Sp := fun vs H Q _ => ∃ a v, vs = [.ref a, v] ∧ H a = some (exo a C none) ∧ ∀ d H2, H d = none → d ≠ a → H2 a = some (exo a C (some d)) → H2 d = some (exd d (fNp v)) → (∀ b, b ≠ a → b ≠ d → H2 b = H b) → Q .non H2
section
variable {P : Program} {w : World} {K : PySem.W.Frag} {mg : Str → Option Value} {base : Heap} {f : Addr} {fd : FuncData} {C : Addr}
theorem ok_Np (F : MeP K "__init__" "NoProgram.__init__" mNp f fd) (T : OexL K C) (nf : PySem.W.findIn K (.ref C) "name" = some none) (nt : PySem.W.findIn K (.ref C) "tag" = some none) : FnOk P w K mg base CX0 1 f fd ["self", "name"] (spNp C) := by
  refine F.ok sc_Np (fun vs H Q E h => ?_) (fun cdv A outer s H vs Q E hr h => ?_)
  · obtain ⟨a, v, rfl, _⟩ := h
    rfl
  · obtain ⟨a, v, rfl, ha, k⟩ := h
    refine ⟨_, pss_cons (by
        exact ps_ostL (pv 0) (pv 1)) <| pss_one (by
        exact ps_ostL (pv 0) pe_str), ?_⟩
    refine ⟨v, rfl, .ref a, rfl, a, C, rfl, T, nf, .inl ⟨ha, fun d hd hda => ?_⟩⟩
    refine ⟨.ref a, rfl, a, C, rfl, T, nt, .inr ⟨d, [("name", v)], upd_same, by rw [upd_ne hda, upd_same], by simp, ?_⟩⟩
    refine k d _ hd hda (by rw [upd_ne (Ne.symm hda), upd_same]) upd_same fun b hb hbd => ?_
    rw [upd_ne hbd, upd_ne hb, upd_ne hbd]
end
/-- a new NoProgram flies: all stands -/
theorem tmk_Np {CB : Addr} {σ : L2.St} {H : Hp} {ta : TA} {v : V} {W : XK} (h : EvA ta σ H [v]) (k : ∀ d H', H' d = some (.xd (fNp v)) → Ex H H' → W (.ref CB) (some d) H') : tMkO CB (spNp CB) [] ta σ H W := by
  unfold tMkO
  refine h H (Ex.refl H) _ fun H2 e2 => ⟨by simp, fun a ha => ⟨a, v, rfl, upd_same, fun d H3 hd hda h3a h3d hold => by
    have hd2 : H2 d = none := by rw [upd_ne hda] at hd; exact hd
    have keep : ∀ b o, H2 b = some o → upd (del H3 a) d (.xd (fNp v)) b = some o := fun b o hb => by
      have hbd : b ≠ d := fun z => by rw [z, hd2] at hb; cases hb
      have hba : b ≠ a := fun z => by rw [z, ha] at hb; cases hb
      rw [upd_ne hbd, del_ne hba, hold b hba hbd, upd_ne hba]
      exact hb
    exact ⟨rfl, d, fNp v, h3a, h3d, hd2, k d _ upd_same (e2.trans keep)⟩⟩⟩
end Cp

/-! try: a suite finally: a suite, whose errors bear no context: a tuple is taken apart in the finally while the error is in flight. -/
namespace GK
open PySem PySem.Spec PyProof.Rows L2 HotX
/-! ### what flies without a context flies -/
theorem traced_weak {h base : Heap} {e : Addr} {Z Z' : Obj → Prop} {fl : Value} (hz : ∀ o, Z o → Z' o) (t : HandSPX.TracedZ h base e Z fl) : HandSPX.TracedZ h base e Z' fl := by
  obtain ⟨oe, vs, T, oT, ts, a, b, c⟩ := t
  exact ⟨oe, vs, T, oT, ts, a, hz _ b, c⟩
theorem flying_weak {B h : Heap} {l : List Env} {e : Addr} {Z Z' : Obj → Prop} (hz : ∀ o, Z o → Z' o) (t : HandSPX.FlyingZ B l e Z h) : HandSPX.FlyingZ B l e Z' h := ⟨t.1, t.2.1, t.2.2.1, traced_weak hz t.2.2.2⟩
theorem cxn_cx {P : Program} {w : World} {outer : List Env} {H : Hp} {s : Shared} {E : XK} {u : Value} {s' : Shared} (h : L2N.CX P w outer H s E u s') : L2.CX P w outer H s E u s' := by
  obtain ⟨a, B, H', cls, d, e, fl, r⟩ := h
  exact ⟨a, B, H', cls, d, e, flying_weak (fun _ z => z.zc) fl, r⟩
/-- a callee that lets such errors out, in a context of errors of any kind -/
theorem passN {X : Cx} {W : WX} {E : XK} (tk : L2.Takes X W) (hW : ∀ cls d σ H, E cls d H → W cls d σ H) : Passes (L2N.CX X.prog X.w) X E := fun pins σ H s e s' I c => L2.passes_call tk hW pins σ H s e s' I (cxn_cx c)
/-! ### a new error of an own class -/
theorem pmkn_oex {X : Cx} {CX : CXT} {x : Str} {e : Expr} {es : List Expr} {ta : TA} {p pos : Pos} {C fI : Addr} {k : Nat} {fd : FuncData} {ps : List Str} {sp : Sp} {ds : List Value} {dvs : List V} (T : OexC X.K C) (iC : PySem.W.findIn X.K (.ref C) "__init__" = some (some (.ref fI))) (tI : PySem.W.typeIn X.K (.ref fI) = some (.type "function"))
    (F1 : FnOk X.prog X.w X.K X.mg X.base CX k fI fd ps sp) (hr : Room (k + 1) X.A) (hb : Binds X.K fd ps ds) (hd : Vals dvs ds) (hx : Passes CX X (fun _ _ _ => False)) (hg : Gl X x) (hm : X.mg x = some (.ref C)) (ha : PA X (e :: es) ta)
    (hdb : (x == ("__debug__" : Str)) = false := by decide) (he : starEach (e :: es) X.env = (false, eval e X.env) :: starEach es X.env := by rfl) (hpl : (backTo pos (starEach es X.env)).any (·.1) = false := by rfl) :
    L2N.PMk X (.Call (.Name x p) (e :: es) [] pos) (tMkO C sp dvs ta) := by
  intro pins s σ H Q I h
  obtain ⟨nm, q, N, bs, bm, sn, sub, ab, col, dd, k0, k1, k2, k3, k5, hC, hbm⟩ := T.cls
  refine wpAny_Call_Name_kw (ld_glob I hg hm ?_ hdb)
  refine PySem.W.callWith_K (h₀ := X.base) I.ok.mod.kin T.kC (thn (ha.run pos pins s σ H _ I h) fun us s1 ⟨vs, H1, I1, r1, hz, q1⟩ => ⟨I1.kIn, ?_⟩) he hpl
  show wpAny _ _ (call (.ref C) us) _ _ _
  obtain ⟨hp, g, dr, tk, os⟩ := s1
  have hsz : hp.objs.size ≤ hp.objs.size + 1 := Nat.le_succ _
  have hn : H1 (hp.objs.size + 1) = none := I1.hok.fresh hsz
  have hq := q1 (hp.objs.size + 1) hn
  have kk : ∀ b o, hp.get? b = some o → ((hp.push (PySem.W.kdv_tup us)).push (PySem.HandSPX.excO C hp.objs.size)).get? b = some o := fun b o e => Heap.get?_push_of_some _ (Heap.get?_push_of_some _ e)
  have hget : ((hp.push (PySem.W.kdv_tup us)).push (PySem.HandSPX.excO C hp.objs.size)).get? (hp.objs.size + 1) = some (PySem.HandSPX.excO C hp.objs.size) := by heap_get
  have I2 : Inv X pins σ (upd H1 (hp.objs.size + 1) (exo (hp.objs.size + 1) C none)) ⟨(hp.push (PySem.W.kdv_tup us)).push (PySem.HandSPX.excO C hp.objs.size), g, dr, tk, os⟩ :=
    I1.laid (t' := tk) (a := hp.objs.size + 1) (o := exo (hp.objs.size + 1) C none) (h' := (hp.push (PySem.W.kdv_tup us)).push (PySem.HandSPX.excO C hp.objs.size)) kk hsz (exo_ok hget)
  have r2 : Vals (V.ref (hp.objs.size + 1) :: (vs ++ dvs)) (Value.ref (hp.objs.size + 1) :: (us ++ ds)) := .cons rfl (r1.append hd)
  have hl : (Value.ref (hp.objs.size + 1) :: us ++ ds).length = ps.length := by
    have e := r2.length
    rw [F1.len _ _ _ _ hq] at e
    exact e.symm
  have hus : us.length ≤ sizeLine := by
    rw [← Paired.length r1, sizeLine_eq]
    omega
  refine wpAny_call (PySem.HandSPX.call_own F.excBase_ValueError (fun Y => PySem.HandSPX.refsVE_contains Y bm hbm) (I1.kIn _ _ hC) (PySem.W.looks_findIn I1.kIn iC) (fun self => PySem.W.bind_fn I1.kIn self tI) hus
    (codeAny_mono (F1.run _ X.stack _ _ ⟨Value.ref (hp.objs.size + 1) :: us, []⟩ (Value.ref (hp.objs.size + 1) :: (us ++ ds)) _ _ (fun _ _ _ => False) (hr.make C us []) (I2.env0.make C us []) (hb _ (Value.ref (hp.objs.size + 1) :: us) I2.kIn hl) r2 hq) fun r s' hq' => ?_))
  cases r with
  | error er => exact hx pins σ _ _ er s' I2 hq'
  | ok fl =>
    cases fl with
    | ret u =>
      obtain ⟨v, H2, os2, bare2, un2, hok2, rv, ev, d, fs, ea, ed, hd1, q2⟩ := hq'
      subst ev
      obtain ⟨h2, g2, d2, t2, os'⟩ := s'
      obtain ⟨t0, G, J, kG, ge, hoe, na⟩ := mk_end0 (d2 := d2) (t2 := t2) I1 hsz kk un2 hok2 os2 bare2 ea ed hd1
      refine ⟨rv, hp.objs.size + 1, _, _, ⟨G, g2, d2, t2, os'⟩, _, .ref C, some d, rfl, J, kG, ge, hoe, ⟨rfl, rfl, fun vs hv => ?_⟩, rfl, rfl, na, rfl, bare2, raises_own T.exC T.tyC, q2⟩
      cases hv
      rfl
    | next => exact False.elim hq'
    | brk => exact False.elim hq'
    | cont => exact False.elim hq'
/-! ### a tuple taken apart while an error is handled -/
section
variable {prog : Program} {w : World} {A : Around} {E : Value → Shared → Prop} {s : Shared}
theorem next_tuple_end_hot {it t x1 : Addr} {i : Nat} {items : Array Value} {Q : Option Value → Shared → Prop} (hot : HotAt A x1 s.heap) (hx1 : x1 ≠ it)
    (hit : IsTupIter s.heap it t i) (ht : IsTup s.heap t items) (hx : items[i]? = none)
    (hQ : ∀ h', Heap.ExtBut it s.heap h' → Q none { s with heap := h' }) : wpAny (model prog w) A (pyNext (.ref it)) Q E s := by
  obtain ⟨o, ho, hc, hd⟩ := id hit
  obtain ⟨ol, hol, _, nl, hdl⟩ := ht
  obtain ⟨hh, o1, vs1, h1, d1, c1⟩ := hot
  unfold pyNext
  refine wpAny_bind (wpAny_attempt (wpAny_callSpecial?_slot (name := Str.ofString "__next__") hit.typeIs slot_tupleiter_next
    (wpAny_call_entry slot_tupleiter_next hit.typeIs entry_tupleiter_next ?_ (args_tupleiter_next _))))
  show wpAny _ _ (field (.ref it) 0 >>= _) _ _ s
  refine wpAny_bind (wpAny_field ho hd (x := .ref t) rfl ?_)
  show wpAny _ _ (if (Value.ref t == Value.none) = true then _ else _) _ _ s
  rw [if_neg (show ¬ ((Value.ref t == Value.none) = true) from Bool.false_ne_true)]
  show wpAny _ _ (field (.ref it) 1 >>= _) _ _ s
  refine wpAny_bind (wpAny_field ho hd (x := .int i 0) rfl ?_)
  show wpAny _ _ (seqItems? (.ref t) >>= _) _ _ s
  refine wpAny_bind (wpAny_seqItems hol hdl ?_)
  simp only [Int.toNat_natCast, hx]
  refine wpAny_bind (wpAny_rule (wpAny_bind (wpAny_setField ho hd (by simp) ?_)))
  show wpAny _ _ (newExc (.type "StopIteration") [] >>= _) _ _ _
  refine wpAny_bind ?_
  simp only [newExc, newTuple]
  refine wpAny_bind (wpAny_newObj_type ?_ (by size_fits))
  refine wpAny_bind (m := firstArgMember _ _) (wpAny_of_eq (a := Value.none) (by first | rfl | (simp only [firstArgMember]; rfl)) ?_)
  refine wpAny_newObj_type ?_ (by size_fits)
  have hu := (Heap.SameBut.update (h := s.heap) (a := it) (f := Obj.mapFields fun vs => vs.setIfInBounds 0 Value.none)).extBut x1 o1 hx1 h1
  refine raiseNew_hot ⟨hh, o1, vs1, Heap.get?_push_of_some _ (Heap.get?_push_of_some _ hu), d1, c1⟩ (Nat.ne_of_lt (Heap.lt_size (Heap.get?_push_of_some _ hu))) (Heap.get?_push_size _ rfl) rfl (by first | (simp; done) | (simp; omega) | (simp only [Array.size_append]; simp; omega)) ?_
  refine wpAny_bind (wpAny_isInstance (T := "StopIteration") (b := true) ⟨_, Heap.get?_update_self _ (Heap.get?_push_size _ rfl) rfl, rfl⟩ isSubtype_stop ?_)
  refine wpAny_pure (hQ _ fun b ob hb e => ?_)
  have hu2 := (Heap.SameBut.update (h := s.heap) (a := it) (f := Obj.mapFields fun vs => vs.setIfInBounds 0 Value.none)).extBut b ob hb e
  rw [Heap.get?_update_other _ _ (Nat.ne_of_gt (Heap.lt_size (Heap.get?_push_of_some _ hu2)))]
  exact Heap.get?_push_of_some _ (Heap.get?_push_of_some _ hu2)
theorem unpackItems_tuple_hot {t x1 : Addr} {items : Array Value} {Q : List Value → Shared → Prop} (hot : HotAt A x1 s.heap) (ht : IsTup s.heap t items)
    (hQ : ∀ h', Heap.ExtBut s.heap.objs.size s.heap h' → Q items.toList { s with heap := h' }) : wpAny (model prog w) A (unpackItems (.ref t) items.size none) Q E s := by
  have hlt : t ≠ s.heap.objs.size := by obtain ⟨o, ho, _⟩ := ht; exact Nat.ne_of_lt (Heap.lt_size ho)
  obtain ⟨hh, o1, vs1, h1, d1, c1⟩ := hot
  have hx1 : x1 ≠ s.heap.objs.size := Nat.ne_of_lt (Heap.lt_size h1)
  unfold unpackItems
  refine wpAny_bind ?_
  · unfold notIterableAtAll
    refine wpAny_bind (wpAny_specialOf ht.typeIs slot_tuple_iter.lookup ?_)
    refine wpAny_pure ?_
    simp only [Bool.false_eq_true, if_false]
    refine wpAny_bind (wpAny_holding (iter_tuple ht ?_))
    refine wpAny_bind (wpAny_holding (draw_tuple hlt items.size 0 _ _ ⟨_, Heap.get?_push_size _ rfl, rfl, rfl⟩ (ht.push _) (by omega) fun h₁ hit₁ hs₁ => ?_))
    have hall : List.take items.size (List.drop 0 items.toList) = items.toList := by
      rw [List.drop_zero]; exact List.take_of_length_le (by simp)
    rw [hall]
    rw [if_neg (by simp)]
    have ht₁ : IsTup h₁ t items := (ht.push _).extBut hs₁.extBut hlt
    refine wpAny_bind (wpAny_holding (next_tuple_end_hot ⟨hh, o1, vs1, hs₁.extBut _ _ hx1 (Heap.get?_push_of_some _ h1), d1, c1⟩ hx1 hit₁ ht₁ (by simp) fun h₂ he₂ => ?_))
    simp only [Option.isSome_none, Bool.false_eq_true, if_false]
    refine wpAny_pure (hQ h₂ fun b o hb e => he₂ b o hb (hs₁.extBut b o hb (Heap.get?_push_of_some _ e)))
end
theorem pg_tupH {X : Cx} {es : List Expr} {k : Nat} {t : TGs} {n : Nat} {pos : Pos} (hc : L2H.HotC X) (h : PGs X es t)
    (hn : (assignEach es X.env).length = n := by rfl) (hst : (assignEach es X.env).findIdx? (·.1) = none := by rfl) : PG X (.Tuple es k pos) (gTup X.K n t) := by
  refine ⟨fun pins s σ H v u Q I r hw => ?_⟩
  obtain ⟨a, xs, e1, hq, hl, hw⟩ := hw
  subst e1
  cases r
  obtain ⟨its, rv, ht, hz⟩ := I.tuple hq
  obtain ⟨x1, hot⟩ := hc.at I
  rw [assign_Tuple]
  refine wpAny_bind (wpAny_standAt ?_)
  unfold unpack
  have e2 : (assignEach es X.env).length = its.toArray.size := by simp [hn, ← hl, rv.length]
  rw [e2, hst]
  refine wpAny_bind (wpAny_holding (unpackItems_tuple_hot hot ht fun h' hx => ?_))
  have I1 : Inv X pins σ H { s with heap := h' } := I.kept (t' := s.toks) fun b o e => hx b o (Nat.ne_of_lt (Heap.lt_size e)) e
  exact h.run pins _ σ H xs _ Q I1 (by simpa using rv) hw
end GK

namespace Cp
open PySem PySem.Spec PyProof.Rows L2 Evl GN GZ
/-- what the making of an error asks -/
structure Oex (P : Program) (w : World) (K : PySem.W.Frag) (mg : Str → Option Value) (base : Heap) (x : Str) (CB : Addr) (ps : List Str) (sp : Sp) where
  f : Addr
  fd : FuncData
  T : OexC K CB
  i : PySem.W.findIn K (.ref CB) "__init__" = some (some (.ref f))
  t : PySem.W.typeIn K (.ref f) = some (.type "function")
  G : FnOk P w K mg base CX0 1 f fd ps sp
  b : Binds K fd ps []
  g : mg x = some (.ref CB)
theorem sc_pc : FnScope ["self", "name", "program"] ["self", "name", "program"] (defScope (mS 16)) := ⟨rfl, rfl, rfl, by decide +kernel, rfl, by decide +kernel, by decide +kernel⟩
def spPc (C CB : Addr) : Sp := fun vs H Q E => ∃ x dx a b n r p l d, ∃ (ks : List (L2.Key × V)) (nm : Str) (pg : V), vs = [.ref x, .str nm, pg] ∧ H x = some (.ins C dx (shF a b n r p l d)) ∧ H a = some (.dK ks) ∧ ks.length ≤ 100 ∧
  (valV ks (.inr nm) = none → r ≤ (ks.length : Int) → ∀ dd H', H' dd = some (.xd (fFu (.int r))) → Ex H H' → E (.ref CB) (some dd) H') ∧
  ((valV ks (.inr nm) = none → (ks.length : Int) < r) → ∀ H2, H2 a = some (.dK (putK ks (.inr nm) pg)) → (∀ y o, y ≠ a → H y = some o → H2 y = some o) → Q .non H2)
section
variable {P : Program} {w : World} {K : PySem.W.Frag} {mg : Str → Option Value} {base : Heap} {f : Addr} {fd : FuncData} {C CB : Addr}
theorem ok_pc (F : MeP K "place" "Shelf.place" (mS 16) f fd) (sc : SC K C) (FU : Oex P w K mg base "Full" CB ["self", "bound"] (spFu CB)) (gL : mg "len" = none) : FnOk P w K mg base (L2N.CX P w) 3 f fd ["self", "name", "program"] (spPc C CB) := by
  refine F.ok sc_pc (fun vs H Q E h => ?_) (fun cdv A outer s H vs Q E hr h => ?_)
  · obtain ⟨x, dx, a, b, n, r, p, l, d, ks, nm, pg, rfl, _⟩ := h
    rfl
  · obtain ⟨x, dx, a, b, n, r, p, l, d, ks, nm, pg, rfl, hx, ha, hn, kE, kN⟩ := h
    refine ⟨_, pss_cons (by
        exact ps_if (PW.pt (pw_and (pt_cmp (pc_dnotin (hu1 hr) (pv 1) (pe_fld (pv 0) rfl))) (pw_and1 (by
          exact pt_cmpR op_ge (pe_callB call_lenD (by rfl) gL PySem.boot_len (pa_cons (pe_fld (pv 0) rfl) pa_nil)) (pe_fld (pv 0) rfl) (by rfl))))) (pss_one (by
          exact L2N.ps_raise rfl (L2N.takes_of rfl rfl rfl rfl) (GK.pmkn_oex FU.T FU.i FU.t FU.G hr FU.b .nil pass0 (by rfl) FU.g (pa_cons (pe_fld (pv 0) rfl) pa_nil)))) pss_nil) <| pss_one (by
        exact ps_dput (hu1 hr) (pe_fld (pv 0) rfl) (pv 1) (pv 2) rfl), ?_⟩
    have eP : ∀ {H1 : Hp}, Ex H H1 → Ev (tFld K (tVar 0) "programs") [some (V.ref x), some (.str nm), some pg] H1 (.ref a) := fun e => ev_fld (ev_var rfl) (e _ _ hx) sc.cls sc.programs rfl
    have eR : ∀ {H1 : Hp}, Ex H H1 → Ev (tFld K (tVar 0) "room") [some (V.ref x), some (.str nm), some pg] H1 (.int r) := fun e => ev_fld (ev_var rfl) (e _ _ hx) sc.cls sc.room rfl
    refine q_when (b := (!(valV ks (.inr nm)).isSome) && decide (r ≤ (ks.length : Int))) (et_and (a := !(valV ks (.inr nm)).isSome) (b := decide (r ≤ (ks.length : Int))) (et_B (ev_dnotin (k := .inr nm) (ev_var rfl) (eP (Ex.refl _)) (.inl ha))) fun _ => et_test (fun H1 e1 Q2 q2 => ?_)) (fun hb H1 e1 => ?_) fun hb H1 e1 => ?_
    · refine eP (Ex.refl _) H1 e1 _ fun H2 e2 => ⟨a, ks, rfl, (e1.trans e2) _ _ ha, ?_⟩
      exact eR (Ex.refl _) H2 (e1.trans e2) _ fun H3 e3 => ⟨_, _, rfl, rfl, q2 H3 (e2.trans e3)⟩
    · rw [Bool.and_eq_true] at hb
      have h1 : valV ks (.inr nm) = none := by
        cases h : valV ks (.inr nm) with
        | none => rfl
        | some v =>
          rw [h] at hb
          cases hb.1
      exact tmk_Fu (v := .int r) (ea_cons (eR e1) ea_nil) fun dd H' hd e => kE h1 (of_decide_eq_true hb.2) dd H' hd (e1.trans e)
    · refine s_dput (a := a) (k := .inr nm) (kvs := ks) (v := pg) (ev_var rfl) (eP e1) (ev_var rfl) (e1 _ _ ha) (by omega) fun H2 e2 => ?_
      refine kN (fun hv => ?_) _ upd_same fun y o hy h => by
        rw [upd_ne hy]
        exact e2 _ _ (e1 _ _ h)
      rw [hv] at hb
      have h2 : decide (r ≤ (ks.length : Int)) = false := hb
      have := of_decide_eq_false h2
      omega
end
end Cp

namespace Cp
open PySem PySem.Spec PyProof.Rows L2 Evl GN GZ
/-- what the making of an error over LookupError asks -/
structure OexN (P : Program) (w : World) (K : PySem.W.Frag) (mg : Str → Option Value) (base : Heap) (x : Str) (CB : Addr) (ps : List Str) (sp : Sp) where
  f : Addr
  fd : FuncData
  T : OexL K CB
  i : PySem.W.findIn K (.ref CB) "__init__" = some (some (.ref f))
  t : PySem.W.typeIn K (.ref f) = some (.type "function")
  G : FnOk P w K mg base CX0 1 f fd ps sp
  b : Binds K fd ps []
  g : mg x = some (.ref CB)
theorem sc_pg : FnScope ["self", "name"] ["self", "name"] (defScope (mS 9)) := ⟨rfl, rfl, rfl, by decide +kernel, rfl, by decide +kernel, by decide +kernel⟩
def spPg (C CN : Addr) : Sp := fun vs H Q E => ∃ x dx a b n r p l d, ∃ (ks : List (L2.Key × V)) (nm : Str), vs = [.ref x, .str nm] ∧ H x = some (.ins C dx (shF a b n r p l d)) ∧ H a = some (.dK ks) ∧
  (valV ks (.inr nm) = none → ∀ dd H', H' dd = some (.xd (fNp (.str nm))) → Ex H H' → E (.ref CN) (some dd) H') ∧ (∀ v, valV ks (.inr nm) = some v → ∀ H2, Ex H H2 → Q v H2)
theorem sc_nw : FnScope ["self", "name"] ["self", "name"] (defScope (mS 15)) := ⟨rfl, rfl, rfl, by decide +kernel, rfl, by decide +kernel, by decide +kernel⟩
def spNw : Sp := fun vs H Q _ => ∃ (x : V) (nm : Str), vs = [x, .str nm] ∧ isW nm = true ∧ 1 ≤ nm.length ∧ nm.length ≤ 6 ∧ ∀ H2, Ex H H2 → Q .non H2
section
variable {P : Program} {w : World} {K : PySem.W.Frag} {mg : Str → Option Value} {base : Heap} {f : Addr} {fd : FuncData} {C CN : Addr}
theorem ok_pg (F : MeP K "program" "Shelf.program" (mS 9) f fd) (sc : SC K C) (NP : OexN P w K mg base "NoProgram" CN ["self", "name"] (spNp CN)) : FnOk P w K mg base (CX P w) 3 f fd ["self", "name"] (spPg C CN) := by
  refine F.ok sc_pg (fun vs H Q E h => ?_) (fun cdv A outer s H vs Q E hr h => ?_)
  · obtain ⟨x, dx, a, b, n, r, p, l, d, ks, nm, rfl, _⟩ := h
    rfl
  · obtain ⟨x, dx, a, b, n, r, p, l, d, ks, nm, rfl, hx, ha, kE, kN⟩ := h
    refine ⟨_, pss_cons (by
        exact ps_if (pt_cmp (pc_dnotin (hu1 hr) (pv 1) (pe_fld (pv 0) rfl))) (pss_one (by
          exact ps_raise rfl (takes_of rfl rfl rfl rfl) (pmk_oexL NP.T NP.i NP.t NP.G hr NP.b .nil pass0 (by rfl) NP.g (pa_cons (pv 1) pa_nil)))) pss_nil) <| pss_one (by
        exact ps_ret (pe_dget (hu1 hr) (pe_fld (pv 0) rfl) (pv 1) (fun _ _ => rfl))), ?_⟩
    have eP : ∀ {H1 : Hp}, Ex H H1 → Ev (tFld K (tVar 0) "programs") [some (V.ref x), some (.str nm)] H1 (.ref a) := fun e => ev_fld (ev_var rfl) (e _ _ hx) sc.cls sc.programs rfl
    cases hv : valV ks (.inr nm) with
    | none =>
      refine q_yes (et_is (et_B (ev_dnotin (k := .inr nm) (ev_var rfl) (eP (Ex.refl _)) (.inl ha))) (by rw [hv]; rfl)) fun H1 e1 => ?_
      exact tmk_Np (v := .str nm) (ea_cons (ev_var rfl) ea_nil) fun dd H' hd e => kE hv dd H' hd (e1.trans e)
    | some v =>
      refine q_no (et_is (et_B (ev_dnotin (k := .inr nm) (ev_var rfl) (eP (Ex.refl _)) (.inl ha))) (by rw [hv]; rfl)) fun H1 e1 => ?_
      exact s_ret (v := v) (ev_dget (k := .inr nm) (eP e1) (ev_var rfl) (.inl (e1 _ _ ha)) hv) fun H2 e2 => kN v hv H2 (e1.trans e2)
theorem ok_nw (F : MeP K "need_word" "Shelf.need_word" (mS 15) f fd) (W : Cal P w K mg base "is_word" 1 ["text"] spWord) : FnOk P w K mg base CX0 2 f fd ["self", "name"] spNw := by
  refine F.ok sc_nw (fun vs H Q E h => ?_) (fun cdv A outer s H vs Q E hr h => ?_)
  · obtain ⟨x, nm, rfl, _⟩ := h
    rfl
  · obtain ⟨x, nm, rfl, hw, h1, h6, k⟩ := h
    refine ⟨_, pss_one (by
      exact ps_if (pt_not (pt_val (by
        exact pe_call W.G hr (by rfl) W.g W.k W.b .nil pass0 (pa_cons (pv 1) pa_nil)) (by intro _; rfl))) pss_no pss_nil), ?_⟩
    exact s_when (b := false) (et_is (et_not (et_B (ev_is (ev_call (ea_cons (ev_var rfl) ea_nil) (RetV.call fun H1 e Q E q => ⟨nm, rfl, h1, h6, q⟩)) (by rw [hw])))) rfl) (fun z => (nomatch z)) fun _ H1 e1 => k H1 e1
end
end Cp

namespace Cp
open PySem PySem.Spec PyProof.Rows L2 Evl GN GZ
/-! {a: b for a, b in d.items()}: a copy -/
def keyAt (ks : List (L2.Key × V)) (i : Nat) : L2.Key := ((ks[i]?).map (·.1)).getD (.inr "")
theorem keyAt_at {ks : List (L2.Key × V)} {i : Nat} {kv : L2.Key × V} (h : ks[i]? = some kv) : keyAt ks i = kv.1 := by
  unfold keyAt
  rw [h]
  rfl
theorem zipD_copy {ks : List (L2.Key × V)} {ys : List V} (hl : ys.length = ks.length) (h : ∀ (i : Nat) kv v, ks[i]? = some kv → ys[i]? = some v → v = kv.2) : zipD (keyAt ks) ys ks.length = ks := by
  unfold zipD
  refine List.ext_getElem? fun i => ?_
  by_cases hi : i < ks.length
  · have hk : ks[i]? = some ks[i] := List.getElem?_eq_getElem hi
    have hy : ys[i]? = some ys[i] := List.getElem?_eq_getElem (by omega)
    have hr : ((List.range ks.length).map (keyAt ks))[i]? = some (keyAt ks i) := by
      rw [List.getElem?_map, List.getElem?_range hi]
      rfl
    rw [List.getElem?_zip_eq_some.mpr ⟨hr, hy⟩ |> fun (z : (((List.range ks.length).map (keyAt ks)).zip ys)[i]? = some (keyAt ks i, ys[i])) => z, hk, keyAt_at hk, h i _ _ hk hy]
  · have h1 : (((List.range ks.length).map (keyAt ks)).zip ys).length ≤ i := by
      rw [List.length_zip, List.length_map, List.length_range]
      omega
    have h2 : ks.length ≤ i := by omega
    rw [List.getElem?_eq_none h1, List.getElem?_eq_none h2]
theorem key_inj {ks : List (L2.Key × V)} (nd : (ks.map (·.1)).Nodup) : ∀ i j, i < ks.length → j < ks.length → keyAt ks i = keyAt ks j → i = j := fun i j hi hj h => by
  rw [keyAt_at (List.getElem?_eq_getElem hi), keyAt_at (List.getElem?_eq_getElem hj)] at h
  have hi2 : i < (ks.map (·.1)).length := by rw [List.length_map]; exact hi
  have hj2 : j < (ks.map (·.1)).length := by rw [List.length_map]; exact hj
  refine (List.getElem_inj (xs := ks.map (·.1)) (h₀ := hi2) (h₁ := hj2) nd).mp ?_
  rw [List.getElem_map, List.getElem_map]
  exact h
section
variable {K : PySem.W.Frag} {σ : L2.St} {H : Hp}
theorem dc_copy {te : TE} {i j : Nat} {vs : List Nat} {D0 : Addr} {od : Obj} {ks : List (L2.Key × V)} (he : Ev te σ H (.ref D0)) (h0 : H D0 = some (.frz od (.dK ks))) (nd : (ks.map (·.1)).Nodup) (hl : ks.length ≤ 1000)
    (hw : ∀ x y, wipe (((wipe σ vs).set i (some x)).set j (some y)) vs = wipe σ vs) (gi : ∀ x y, (((wipe σ vs).set i (some x)).set j (some y))[i]? = some (some x)) (gj : ∀ x y, (((wipe σ vs).set i (some x)).set j (some y))[j]? = some (some y)) :
    ∀ H1, Ex H H1 → ∀ Q : VK, (∀ p H2, H1 p = none → Ex H1 H2 → H2 p = some (.dK ks) → Q (.ref p) H2) → tDc (iItems te) (gTup K 2 (gCons (gName i) (gCons (gName j) gNil))) tYes (tVar i) (tVar j) vs σ H1 Q := fun H1 e1 Q q => by
  have D8 : EvD (tDc (iItems te) (gTup K 2 (gCons (gName i) (gCons (gName j) gNil))) tYes (tVar i) (tVar j) vs) σ H H ks.length (keyAt ks) (fun m v _ => ∀ kv, ks[m]? = some kv → v = kv.2) := by
    refine ed_dc (n := ks.length) (Y := YPair (fun m => ks[m]?.map fun kv => kV kv.1) fun m => ks[m]?.map Prod.snd) (key_inj nd) (Ex.refl _) ⟨Iti D0 od _, fun H1 => H1 D0 = _, walk_items, fun H1 e => e D0 _ h0, fun H1 e R q => he H1 e _ fun H2 e2 => ⟨D0, od, _, rfl, (e.trans e2) D0 _ h0, q H2 e2⟩⟩ hl fun m y H1 H2 hm e yy => ?_
    obtain ⟨TT, x5, x6, rfl, hT, rfl, y5, y6⟩ := yy
    have hk : ks[m]? = some ks[m] := List.getElem?_eq_getElem hm
    have y5 : ks[m]?.map (fun kv => kV kv.1) = some x5 := y5
    have y6 : ks[m]?.map Prod.snd = some x6 := y6
    rw [hk] at y5 y6
    have y5 : kV (ks[m]).1 = x5 := Option.some.inj y5
    have y6 : (ks[m]).2 = x6 := Option.some.inj y6
    subst y5 y6
    have eT : Ex H1 (upd H1 TT (.tup [kV (ks[m]).1, (ks[m]).2])) := Ex.new hT
    refine ⟨eT, fun Q q => g_two (st_of upd_same) (q _ _ (Ex.refl _) (hw _ _) (fun H8 e8 => ?_) fun H8 e8 Q2 q2 => ?_)⟩
    · rw [keyAt_at hk]
      exact ev_var (gi _ _)
    · exact ⟨_, gj _ _, q2 _ H8 (Ex.refl _) fun H9 _ kv hkv => by
        rw [hk] at hkv
        rw [← Option.some.inj hkv]⟩
  refine D8 H1 e1 Q fun p ys H2 hp e2 h2 z => ?_
  obtain ⟨z1, z2⟩ := z H2 (e1.trans e2) fun a o _ _ h => h
  rw [List.length_range] at z1
  have hc := zipD_copy (ks := ks) (ys := ys) z1 fun m kv v hkv hv => z2 m m v (by rw [List.getElem?_range (List.getElem?_eq_some_iff.mp hkv).1]) hv kv hkv
  rw [hc] at h2
  exact q p H2 hp e2 h2
end
end Cp

namespace Cp
open PySem PySem.Spec PyProof.Rows L2 Evl GN GZ
def Nrs : List Str := ["self", "state", "programs", "wishes", "number", "name", "program", "at", "wish"]
theorem sc_rs : FnScope Nrs ["self", "state"] (defScope (mS 6)) := ⟨rfl, rfl, rfl, by decide +kernel, rfl, by decide +kernel, by decide +kernel⟩
def spRs (K : PySem.W.Frag) (C : Addr) : Sp := fun vs H Q _ => ∃ x dx a b n r p l d t a0 b0 n0, ∃ (ks : List (L2.Key × V)), vs = [.ref x, .ref t] ∧ H x = some (.ins C dx (shF a b n r p l d)) ∧ SqT K H t [.ref a0, .ref b0, .int n0] ∧ H a0 = some (.dK ks) ∧ H b0 = some (.dK []) ∧ (ks.map (·.1)).Nodup ∧ ks.length ≤ 100 ∧
  ∀ a2 b2 H2, H a2 = none → H b2 = none → a2 ≠ b2 → H2 x = some (.ins C dx (shF a2 b2 n0 r p l d)) → H2 a2 = some (.dK ks) → H2 b2 = some (.dK []) → (∀ y o, y ≠ x → H y = some o → H2 y = some o) → Q .non H2
section
variable {P : Program} {w : World} {K : PySem.W.Frag} {mg : Str → Option Value} {base : Heap} {f : Addr} {fd : FuncData} {C : Addr}
theorem ok_rs (F : MeP K "restore" "Shelf.restore" (mS 6) f fd) (sc : SC K C) : FnOk P w K mg base CX0 1 f fd ["self", "state"] (spRs K C) := by
  refine F.ok sc_rs (fun vs H Q E h => ?_) (fun cdv A outer s H vs Q E hr h => ?_)
  · obtain ⟨x, dx, a, b, n, r, p, l, d, t, a0, b0, n0, ks, rfl, _⟩ := h
    rfl
  · obtain ⟨x, dx, a, b, n, r, p, l, d, t, a0, b0, n0, ks, rfl, hx, ht, ha, hb, hnd, hn, k⟩ := h
    refine ⟨_, pss_cons (by
        exact ps_asg (pv 1) (pg_tup rfl (pgs_cons (pg_name (i := 2) sc_rs.nd rfl (Or.inl rfl)) (pgs_cons (pg_name (i := 3) sc_rs.nd rfl (Or.inl rfl)) (pgs_cons (pg_name (i := 4) sc_rs.nd rfl (Or.inl rfl)) pgs_nil))))) <| pss_cons (by
        refine ps_asg (pe_lock (by
          exact pe_dc (own := [("name", 5), ("program", 6)]) (g := gTup K 2 (gCons (gName 5) (gCons (gName 6) gNil))) (tt := tYes) (tk := tVar 5) (tv := tVar 6) rfl sc_rs.nd (pi_items (pv 2)) (blkOk_by (by kernel_rfl)) (fun _ _ _ _ _ => pg_tup rfl (pgs_cons (pg_name (i := 5) sc_rs.nd rfl (Or.inl rfl)) (pgs_cons (pg_name (i := 6) sc_rs.nd rfl (Or.inl rfl)) pgs_nil))) (fun _ _ _ _ _ => pts_nil) (fun _ _ _ _ _ => by exact pv 5) (fun _ _ _ _ _ => by exact pv 6))) (pg_fld (pv 0))) <| pss_cons (by
        refine ps_asg (pe_lock (by
          exact pe_dc (own := [("at", 7), ("wish", 8)]) (g := gTup K 2 (gCons (gName 7) (gCons (gName 8) gNil))) (tt := tYes) (tk := tVar 7) (tv := tVar 8) rfl sc_rs.nd (pi_items (pv 3)) (blkOk_by (by kernel_rfl)) (fun _ _ _ _ _ => pg_tup rfl (pgs_cons (pg_name (i := 7) sc_rs.nd rfl (Or.inl rfl)) (pgs_cons (pg_name (i := 8) sc_rs.nd rfl (Or.inl rfl)) pgs_nil))) (fun _ _ _ _ _ => pts_nil) (fun _ _ _ _ _ => by exact pv 7) (fun _ _ _ _ _ => by exact pv 8))) (pg_fld (pv 0))) <| pss_one (by
        exact ps_asg (pv 4) (pg_fld (pv 0))), ?_⟩
    have hxa : x ≠ a0 := fun z => by rw [z, ha] at hx; cases hx
    have hxb : x ≠ b0 := fun z => by rw [z, hb] at hx; cases hx
    refine q_asgW ?_
    refine ⟨.ref t, rfl, t, _, rfl, ht, rfl, .ref a0, _, rfl, .ref b0, _, rfl, .int n0, _, rfl, rfl, ?_⟩
    refine q_asgW ⟨a0, _, ha, trivial, fun od => ?_⟩
    refine dc_copy (te := tVar 2) (ks := ks) (ev_var rfl) upd_same hnd (by omega) (fun _ _ => rfl) (fun _ _ => rfl) (fun _ _ => rfl) _ (Ex.refl _) _ fun p2 H2 hp2 e2 h2 => ⟨e2 a0 _ upd_same, .ref x, rfl, x, C, dx, shF a b n r p l d, rfl, (by rw [upd_ne hxa]; exact e2 x _ (by rw [upd_ne hxa]; exact hx)), sc.cls, sc.programs, (show (7 : Nat) < 1000 by decide), ?_⟩
    have k3 : ∀ y o, y ≠ x → H y = some o → (upd (upd H2 a0 (.dK ks)) x (.ins C dx (putF "programs" (.ref p2) (shF a b n r p l d)))) y = some o := fun y o hy h => by
      rw [upd_ne hy]
      by_cases z : y = a0
      · rw [z, upd_same]
        rw [z, ha] at h
        exact h
      · rw [upd_ne z]
        exact e2 _ _ (by rw [upd_ne z]; exact h)
    have np2 : H p2 = none := by
      by_cases z : p2 = a0
      · rw [z, upd_same] at hp2
        cases hp2
      · rw [upd_ne z] at hp2
        exact hp2
    have hp2x : p2 ≠ x := fun z => by rw [z, hx] at np2; cases np2
    have hp2a : p2 ≠ a0 := fun z => by rw [z, ha] at np2; cases np2
    have x3 : (upd (upd H2 a0 (.dK ks)) x (.ins C dx (putF "programs" (.ref p2) (shF a b n r p l d)))) x = some (.ins C dx (shF p2 b n r p l d)) := by
      rw [upd_same, show putF "programs" (.ref p2) (shF a b n r p l d) = shF p2 b n r p l d by kernel_rfl]
    have p3 : (upd (upd H2 a0 (.dK ks)) x (.ins C dx (putF "programs" (.ref p2) (shF a b n r p l d)))) p2 = some (.dK ks) := by
      rw [upd_ne hp2x, upd_ne hp2a]
      exact h2
    generalize upd (upd H2 a0 (.dK ks)) x (.ins C dx (putF "programs" (.ref p2) (shF a b n r p l d))) = H3 at k3 x3 p3 ⊢
    have b3 := k3 _ _ (Ne.symm hxb) hb
    refine q_asgW ⟨b0, _, b3, trivial, fun od2 => ?_⟩
    refine dc_copy (te := tVar 3) (ks := []) (ev_var rfl) upd_same (by simp) (by decide) (fun _ _ => rfl) (fun _ _ => rfl) (fun _ _ => rfl) _ (Ex.refl _) _ fun q2 H4 hq2 e4 h4 => ⟨e4 b0 _ upd_same, .ref x, rfl, x, C, dx, shF p2 b n r p l d, rfl, (by rw [upd_ne hxb]; exact e4 x _ (by rw [upd_ne hxb]; exact x3)), sc.cls, sc.wishes, (show (7 : Nat) < 1000 by decide), ?_⟩
    have k5 : ∀ y o, y ≠ x → H3 y = some o → (upd (upd H4 b0 (.dK [])) x (.ins C dx (putF "wishes" (.ref q2) (shF p2 b n r p l d)))) y = some o := fun y o hy h => by
      rw [upd_ne hy]
      by_cases z : y = b0
      · rw [z, upd_same]
        rw [z, b3] at h
        exact h
      · rw [upd_ne z]
        exact e4 _ _ (by rw [upd_ne z]; exact h)
    have nq3 : H3 q2 = none := by
      by_cases z : q2 = b0
      · rw [z, upd_same] at hq2
        cases hq2
      · rw [upd_ne z] at hq2
        exact hq2
    have hq2x : q2 ≠ x := fun z => by rw [z, x3] at nq3; cases nq3
    have hq2b : q2 ≠ b0 := fun z => by rw [z, b3] at nq3; cases nq3
    have nqH : H q2 = none := by
      cases h : H q2 with
      | none => rfl
      | some o =>
        have := k3 _ _ hq2x h
        rw [nq3] at this
        cases this
    have hpq : p2 ≠ q2 := fun z => by rw [z, nq3] at p3; cases p3
    have x5 : (upd (upd H4 b0 (.dK [])) x (.ins C dx (putF "wishes" (.ref q2) (shF p2 b n r p l d)))) x = some (.ins C dx (shF p2 q2 n r p l d)) := by
      rw [upd_same, show putF "wishes" (.ref q2) (shF p2 b n r p l d) = shF p2 q2 n r p l d by kernel_rfl]
    have q5 : (upd (upd H4 b0 (.dK [])) x (.ins C dx (putF "wishes" (.ref q2) (shF p2 b n r p l d)))) q2 = some (.dK []) := by
      rw [upd_ne hq2x, upd_ne hq2b]
      exact h4
    generalize upd (upd H4 b0 (.dK [])) x (.ins C dx (putF "wishes" (.ref q2) (shF p2 b n r p l d))) = H5 at k5 x5 q5 ⊢
    refine ⟨.int n0, rfl, .ref x, rfl, x, C, dx, shF p2 q2 n r p l d, rfl, x5, sc.cls, sc.number, (show (7 : Nat) < 1000 by decide), ?_⟩
    refine k p2 q2 _ np2 nqH hpq (by rw [upd_same, show putF "number" (.int n0) (shF p2 q2 n r p l d) = shF p2 q2 n0 r p l d by kernel_rfl]) (by rw [upd_ne hp2x]; exact k5 _ _ hp2x p3) (by rw [upd_ne hq2x]; exact q5) fun y o hy h => by
      rw [upd_ne hy]
      exact k5 _ _ hy (k3 _ _ hy h)
end
end Cp

namespace Cp
open PySem PySem.Spec PyProof.Rows L2 Evl GN GZ
theorem sc_un : FnScope ["self"] ["self"] (defScope (mS 24)) := ⟨rfl, rfl, rfl, by decide +kernel, rfl, by decide +kernel, by decide +kernel⟩
/-- one step back: p the past, l the later; t the last state, t2 the new one -/
def spUn (K : PySem.W.Frag) (C : Addr) : Sp := fun vs H Q _ => ∃ x dx a b n r p l d t a0 b0 n0, ∃ (ks k0 : List (L2.Key × V)) (ps ls : List V), vs = [.ref x] ∧ H x = some (.ins C dx (shF a b n r p l d)) ∧ H a = some (.dK ks) ∧ H b = some (.dK []) ∧ H p = some (.lst (ps ++ [.ref t])) ∧ H l = some (.lst ls) ∧ p ≠ l ∧ ps.length ≤ 1000 ∧ ls.length ≤ 1000 ∧
  H t = some (.tup [.ref a0, .ref b0, .int n0]) ∧ H a0 = some (.dK k0) ∧ H b0 = some (.dK []) ∧ (k0.map (·.1)).Nodup ∧ k0.length ≤ 100 ∧
  ∀ a2 b2 a3 b3 t2 H2, H a2 = none → H b2 = none → H2 x = some (.ins C dx (shF a2 b2 n0 r p l d)) → H2 a2 = some (.dK k0) → H2 b2 = some (.dK []) → H2 p = some (.lst ps) → H2 l = some (.lst (ls ++ [.ref t2])) → H2 t2 = some (.tup [.ref a3, .ref b3, .int n]) → H2 a3 = some (.dK ks) → H2 b3 = some (.dK []) → [a2, b2, a3, b3].Nodup → (∀ y o, y ≠ x → y ≠ p → y ≠ l → H y = some o → H2 y = some o) → Q .non H2
section
variable {P : Program} {w : World} {K : PySem.W.Frag} {mg : Str → Option Value} {base : Heap} {f : Addr} {fd : FuncData} {C : Addr}
theorem ok_un (F : MeP K "undo" "Shelf.undo" (mS 24) f fd) (sc : SC K C) (KS : Mcal P w K mg base C "kept_state" CX0 1 ["self"] (spKs C)) (RS : Mcal P w K mg base C "restore" CX0 1 ["self", "state"] (spRs K C)) (gL : mg "len" = none) : FnOk P w K mg base CX0 2 f fd ["self"] (spUn K C) := by
  refine F.ok sc_un (fun vs H Q E h => ?_) (fun cdv A outer s H vs Q E hr h => ?_)
  · obtain ⟨x, dx, a, b, n, r, p, l, d, t, a0, b0, n0, ks, k0, ps, ls, rfl, _⟩ := h
    rfl
  · obtain ⟨x, dx, a, b, n, r, p, l, d, t, a0, b0, n0, ks, k0, ps, ls, rfl, hx, ha, hb, hp, hl, hpl, hpn, hln, ht, ha0, hb0, hnd, hk0, k⟩ := h
    refine ⟨_, pss_cons (by
        exact ps_if (pt_cmpR op_eq (pe_callB call_len_seq (by rfl) gL PySem.boot_len (pa_cons (pe_fld (pv 0) rfl) pa_nil)) pe_int (nomark _)) pss_no pss_nil) <| pss_cons (by
        exact ps_expr (pe_bm PySem.F.plainAttrs_list PySem.F.slot_list_append PySem.F.type_list_append mt_append (pe_fld (pv 0) rfl) (pa_cons (by
          exact pe_meth0 (pv 0) sc.cls KS.m KS.G hr KS.b .nil pass0) pa_nil))) <| pss_one (by
        exact ps_expr (by
          exact pe_meth (pv 0) sc.cls RS.m RS.G hr RS.b .nil pass0 (pa_cons (pe_bm0 PySem.F.plainAttrs_list PySem.F.slot_list_pop PySem.F.type_list_pop mt_pop (pe_fld (pv 0) rfl)) pa_nil))), ?_⟩
    have fP : ∀ {H1 : Hp}, H1 x = some (.ins C dx (shF a b n r p l d)) → Ev (tFld K (tVar 0) "past") [some (V.ref x)] H1 (.ref p) := fun h => ev_fld (ev_var rfl) h sc.cls sc.past rfl
    have fL : ∀ {H1 : Hp}, H1 x = some (.ins C dx (shF a b n r p l d)) → Ev (tFld K (tVar 0) "later") [some (V.ref x)] H1 (.ref l) := fun h => ev_fld (ev_var rfl) h sc.cls sc.later rfl
    refine q_no (et_is (et_eq (a := .int ((ps ++ [V.ref t]).length : Int)) (b := .int 0) (ev_len (fP hx) (sq_of hp)) ev_c rfl) (decide_eq_false fun z => by
      have := V.int.inj z
      rw [List.length_append] at this
      simp at this
      omega)) fun H1 e1 => ?_
    show tBM K "list" rAppend (tFld K (tVar 0) "later") _ _ H1 _
    unfold tBM
    refine fL (e1 _ _ hx) H1 (Ex.refl _) _ fun H2 e2 => ?_
    have e02 := e1.trans e2
    refine ⟨.inl ⟨rfl, ls, sq_of (e02 _ _ hl)⟩, ?_⟩
    refine ⟨.ref x, rfl, x, dx, _, rfl, e02 _ _ hx, rfl, x, dx, a, b, n, r, p, l, d, ks, [], rfl, e02 _ _ hx, e02 _ _ ha, e02 _ _ hb, fun a3 b3 t2 H3 na3 nb3 nt2 e3 h3a h3b h3t hab => ?_⟩
    have e03 := e02.trans e3
    refine ⟨l, ls, .ref t2, rfl, rfl, e03 _ _ hl, sz_lt (by omega), ?_⟩
    have hlx : l ≠ x := fun z => by rw [z, hx] at hl; cases hl
    have hpx : p ≠ x := fun z => by rw [z, hx] at hp; cases hp
    have htl : t ≠ l := fun z => by rw [z, hl] at ht; cases ht
    have htp : t ≠ p := fun z => by rw [z, hp] at ht; cases ht
    have hal : a0 ≠ l := fun z => by rw [z, hl] at ha0; cases ha0
    have hap : a0 ≠ p := fun z => by rw [z, hp] at ha0; cases ha0
    have hbl : b0 ≠ l := fun z => by rw [z, hl] at hb0; cases hb0
    have hbp : b0 ≠ p := fun z => by rw [z, hp] at hb0; cases hb0
    have k4 : ∀ y o, y ≠ l → H y = some o → (upd H3 l (.lst (ls ++ [.ref t2]))) y = some o := fun y o hy h => by
      rw [upd_ne hy]
      exact e03 _ _ h
    have l4 : (upd H3 l (.lst (ls ++ [.ref t2]))) l = some (.lst (ls ++ [.ref t2])) := upd_same
    have n4 : ∀ {y o}, y ≠ l → H3 y = some o → (upd H3 l (.lst (ls ++ [.ref t2]))) y = some o := fun hy h => by
      rw [upd_ne hy]
      exact h
    have ne3 : ∀ {y}, H2 y = none → y ≠ l := fun hy z => by rw [z, e02 _ _ hl] at hy; cases hy
    have h3a := n4 (ne3 na3) h3a
    have h3b := n4 (ne3 nb3) h3b
    have h3t := n4 (ne3 nt2) h3t
    generalize upd H3 l (.lst (ls ++ [.ref t2])) = H4 at k4 l4 h3a h3b h3t ⊢
    show tMeth C "restore" (spRs K C) [] E0 (tVar 0) _ _ H4 _
    refine ⟨.ref x, rfl, x, dx, _, rfl, k4 _ _ (Ne.symm hlx) hx, rfl, ?_⟩
    unfold tCons
    show tBM0 K "list" rPop (tFld K (tVar 0) "past") _ H4 _
    unfold tBM0
    refine fP (k4 _ _ (Ne.symm hlx) hx) H4 (Ex.refl _) _ fun H5 e5 => ?_
    have hp5 := e5 _ _ (k4 _ _ hpl hp)
    refine ⟨.inl ⟨rfl, _, sq_of hp5⟩, p, ps ++ [.ref t], .ref t, rfl, rfl, hp5, by simp, ?_⟩
    rw [List.dropLast_concat]
    have k6 : ∀ y o, y ≠ l → y ≠ p → H y = some o → (upd H5 p (.lst ps)) y = some o := fun y o h1 h2 h => by
      rw [upd_ne h2]
      exact e5 _ _ (k4 _ _ h1 h)
    have n6 : ∀ {y o}, y ≠ p → H4 y = some o → (upd H5 p (.lst ps)) y = some o := fun hy h => by
      rw [upd_ne hy]
      exact e5 _ _ h
    have p6 : (upd H5 p (.lst ps)) p = some (.lst ps) := upd_same
    have nep : ∀ {y}, H2 y = none → y ≠ p := fun hy z => by rw [z, e02 _ _ hp] at hy; cases hy
    have nex : ∀ {y}, H2 y = none → y ≠ x := fun hy z => by rw [z, e02 _ _ hx] at hy; cases hy
    have l6 := n6 (Ne.symm hpl) l4
    have h3a := n6 (nep na3) h3a
    have h3b := n6 (nep nb3) h3b
    have h3t := n6 (nep nt2) h3t
    generalize upd H5 p (.lst ps) = H6 at k6 p6 l6 h3a h3b h3t ⊢
    refine ⟨x, dx, a, b, n, r, p, l, d, t, a0, b0, n0, k0, rfl, k6 _ _ (Ne.symm hlx) (Ne.symm hpx) hx, st_of (k6 _ _ htl htp ht), k6 _ _ hal hap ha0, k6 _ _ hbl hbp hb0, hnd, hk0, fun a2 b2 H7 na2 nb2 hab2 hx7 h7a h7b k7 => ?_⟩
    have back : ∀ {y}, H6 y = none → H y = none := fun {y} hy => by
      cases h : H y with
      | none => rfl
      | some o =>
        have h1 : y ≠ l := fun z => by rw [z, l6] at hy; cases hy
        have h2 : y ≠ p := fun z => by rw [z, p6] at hy; cases hy
        have := k6 _ _ h1 h2 h
        rw [hy] at this
        cases this
    have apart : ∀ {y z o}, H6 y = none → H6 z = some o → y ≠ z := fun hy hz e => by
      rw [e, hz] at hy
      cases hy
    have n23 := apart na2 h3a
    have n23' := apart na2 h3b
    have m23 := apart nb2 h3a
    have m23' := apart nb2 h3b
    exact k a2 b2 a3 b3 t2 H7 (back na2) (back nb2) hx7 h7a h7b (k7 _ _ hpx p6) (k7 _ _ hlx l6) (k7 _ _ (nex nt2) h3t) (k7 _ _ (nex na3) h3a) (k7 _ _ (nex nb3) h3b) (by simp [hab2, n23, n23', m23, m23', hab]) fun y o h1 h2 h3 h => k7 _ _ h1 (k6 _ _ h3 h2 h)
end
end Cp

namespace Cp
open PySem PySem.Spec PyProof.Rows L2 Evl GN GZ
theorem sc_re : FnScope ["self"] ["self"] (defScope (mS 25)) := ⟨rfl, rfl, rfl, by decide +kernel, rfl, by decide +kernel, by decide +kernel⟩
/-- one step forth: p the later, l the past -/
def spRe (K : PySem.W.Frag) (C : Addr) : Sp := fun vs H Q _ => ∃ x dx a b n r p l d t a0 b0 n0, ∃ (ks k0 : List (L2.Key × V)) (ps ls : List V), vs = [.ref x] ∧ H x = some (.ins C dx (shF a b n r l p d)) ∧ H a = some (.dK ks) ∧ H b = some (.dK []) ∧ H p = some (.lst (ps ++ [.ref t])) ∧ H l = some (.lst ls) ∧ p ≠ l ∧ ps.length ≤ 1000 ∧ ls.length ≤ 1000 ∧
  H t = some (.tup [.ref a0, .ref b0, .int n0]) ∧ H a0 = some (.dK k0) ∧ H b0 = some (.dK []) ∧ (k0.map (·.1)).Nodup ∧ k0.length ≤ 100 ∧
  ∀ a2 b2 a3 b3 t2 H2, H a2 = none → H b2 = none → H2 x = some (.ins C dx (shF a2 b2 n0 r l p d)) → H2 a2 = some (.dK k0) → H2 b2 = some (.dK []) → H2 p = some (.lst ps) → H2 l = some (.lst (ls ++ [.ref t2])) → H2 t2 = some (.tup [.ref a3, .ref b3, .int n]) → H2 a3 = some (.dK ks) → H2 b3 = some (.dK []) → [a2, b2, a3, b3].Nodup → (∀ y o, y ≠ x → y ≠ p → y ≠ l → H y = some o → H2 y = some o) → Q .non H2
section
variable {P : Program} {w : World} {K : PySem.W.Frag} {mg : Str → Option Value} {base : Heap} {f : Addr} {fd : FuncData} {C : Addr}
theorem ok_re (F : MeP K "redo" "Shelf.redo" (mS 25) f fd) (sc : SC K C) (KS : Mcal P w K mg base C "kept_state" CX0 1 ["self"] (spKs C)) (RS : Mcal P w K mg base C "restore" CX0 1 ["self", "state"] (spRs K C)) (gL : mg "len" = none) : FnOk P w K mg base CX0 2 f fd ["self"] (spRe K C) := by
  refine F.ok sc_re (fun vs H Q E h => ?_) (fun cdv A outer s H vs Q E hr h => ?_)
  · obtain ⟨x, dx, a, b, n, r, p, l, d, t, a0, b0, n0, ks, k0, ps, ls, rfl, _⟩ := h
    rfl
  · obtain ⟨x, dx, a, b, n, r, p, l, d, t, a0, b0, n0, ks, k0, ps, ls, rfl, hx, ha, hb, hp, hl, hpl, hpn, hln, ht, ha0, hb0, hnd, hk0, k⟩ := h
    refine ⟨_, pss_cons (by
        exact ps_if (pt_cmpR op_eq (pe_callB call_len_seq (by rfl) gL PySem.boot_len (pa_cons (pe_fld (pv 0) rfl) pa_nil)) pe_int (nomark _)) pss_no pss_nil) <| pss_cons (by
        exact ps_expr (pe_bm PySem.F.plainAttrs_list PySem.F.slot_list_append PySem.F.type_list_append mt_append (pe_fld (pv 0) rfl) (pa_cons (by
          exact pe_meth0 (pv 0) sc.cls KS.m KS.G hr KS.b .nil pass0) pa_nil))) <| pss_one (by
        exact ps_expr (by
          exact pe_meth (pv 0) sc.cls RS.m RS.G hr RS.b .nil pass0 (pa_cons (pe_bm0 PySem.F.plainAttrs_list PySem.F.slot_list_pop PySem.F.type_list_pop mt_pop (pe_fld (pv 0) rfl)) pa_nil))), ?_⟩
    have fP : ∀ {H1 : Hp}, H1 x = some (.ins C dx (shF a b n r l p d)) → Ev (tFld K (tVar 0) "later") [some (V.ref x)] H1 (.ref p) := fun h => ev_fld (ev_var rfl) h sc.cls sc.later rfl
    have fL : ∀ {H1 : Hp}, H1 x = some (.ins C dx (shF a b n r l p d)) → Ev (tFld K (tVar 0) "past") [some (V.ref x)] H1 (.ref l) := fun h => ev_fld (ev_var rfl) h sc.cls sc.past rfl
    refine q_no (et_is (et_eq (a := .int ((ps ++ [V.ref t]).length : Int)) (b := .int 0) (ev_len (fP hx) (sq_of hp)) ev_c rfl) (decide_eq_false fun z => by
      have := V.int.inj z
      rw [List.length_append] at this
      simp at this
      omega)) fun H1 e1 => ?_
    show tBM K "list" rAppend (tFld K (tVar 0) "past") _ _ H1 _
    unfold tBM
    refine fL (e1 _ _ hx) H1 (Ex.refl _) _ fun H2 e2 => ?_
    have e02 := e1.trans e2
    refine ⟨.inl ⟨rfl, ls, sq_of (e02 _ _ hl)⟩, ?_⟩
    refine ⟨.ref x, rfl, x, dx, _, rfl, e02 _ _ hx, rfl, x, dx, a, b, n, r, l, p, d, ks, [], rfl, e02 _ _ hx, e02 _ _ ha, e02 _ _ hb, fun a3 b3 t2 H3 na3 nb3 nt2 e3 h3a h3b h3t hab => ?_⟩
    have e03 := e02.trans e3
    refine ⟨l, ls, .ref t2, rfl, rfl, e03 _ _ hl, sz_lt (by omega), ?_⟩
    have hlx : l ≠ x := fun z => by rw [z, hx] at hl; cases hl
    have hpx : p ≠ x := fun z => by rw [z, hx] at hp; cases hp
    have htl : t ≠ l := fun z => by rw [z, hl] at ht; cases ht
    have htp : t ≠ p := fun z => by rw [z, hp] at ht; cases ht
    have hal : a0 ≠ l := fun z => by rw [z, hl] at ha0; cases ha0
    have hap : a0 ≠ p := fun z => by rw [z, hp] at ha0; cases ha0
    have hbl : b0 ≠ l := fun z => by rw [z, hl] at hb0; cases hb0
    have hbp : b0 ≠ p := fun z => by rw [z, hp] at hb0; cases hb0
    have k4 : ∀ y o, y ≠ l → H y = some o → (upd H3 l (.lst (ls ++ [.ref t2]))) y = some o := fun y o hy h => by
      rw [upd_ne hy]
      exact e03 _ _ h
    have l4 : (upd H3 l (.lst (ls ++ [.ref t2]))) l = some (.lst (ls ++ [.ref t2])) := upd_same
    have n4 : ∀ {y o}, y ≠ l → H3 y = some o → (upd H3 l (.lst (ls ++ [.ref t2]))) y = some o := fun hy h => by
      rw [upd_ne hy]
      exact h
    have ne3 : ∀ {y}, H2 y = none → y ≠ l := fun hy z => by rw [z, e02 _ _ hl] at hy; cases hy
    have h3a := n4 (ne3 na3) h3a
    have h3b := n4 (ne3 nb3) h3b
    have h3t := n4 (ne3 nt2) h3t
    generalize upd H3 l (.lst (ls ++ [.ref t2])) = H4 at k4 l4 h3a h3b h3t ⊢
    show tMeth C "restore" (spRs K C) [] E0 (tVar 0) _ _ H4 _
    refine ⟨.ref x, rfl, x, dx, _, rfl, k4 _ _ (Ne.symm hlx) hx, rfl, ?_⟩
    unfold tCons
    show tBM0 K "list" rPop (tFld K (tVar 0) "later") _ H4 _
    unfold tBM0
    refine fP (k4 _ _ (Ne.symm hlx) hx) H4 (Ex.refl _) _ fun H5 e5 => ?_
    have hp5 := e5 _ _ (k4 _ _ hpl hp)
    refine ⟨.inl ⟨rfl, _, sq_of hp5⟩, p, ps ++ [.ref t], .ref t, rfl, rfl, hp5, by simp, ?_⟩
    rw [List.dropLast_concat]
    have k6 : ∀ y o, y ≠ l → y ≠ p → H y = some o → (upd H5 p (.lst ps)) y = some o := fun y o h1 h2 h => by
      rw [upd_ne h2]
      exact e5 _ _ (k4 _ _ h1 h)
    have n6 : ∀ {y o}, y ≠ p → H4 y = some o → (upd H5 p (.lst ps)) y = some o := fun hy h => by
      rw [upd_ne hy]
      exact e5 _ _ h
    have p6 : (upd H5 p (.lst ps)) p = some (.lst ps) := upd_same
    have nep : ∀ {y}, H2 y = none → y ≠ p := fun hy z => by rw [z, e02 _ _ hp] at hy; cases hy
    have nex : ∀ {y}, H2 y = none → y ≠ x := fun hy z => by rw [z, e02 _ _ hx] at hy; cases hy
    have l6 := n6 (Ne.symm hpl) l4
    have h3a := n6 (nep na3) h3a
    have h3b := n6 (nep nb3) h3b
    have h3t := n6 (nep nt2) h3t
    generalize upd H5 p (.lst ps) = H6 at k6 p6 l6 h3a h3b h3t ⊢
    refine ⟨x, dx, a, b, n, r, l, p, d, t, a0, b0, n0, k0, rfl, k6 _ _ (Ne.symm hlx) (Ne.symm hpx) hx, st_of (k6 _ _ htl htp ht), k6 _ _ hal hap ha0, k6 _ _ hbl hbp hb0, hnd, hk0, fun a2 b2 H7 na2 nb2 hab2 hx7 h7a h7b k7 => ?_⟩
    have back : ∀ {y}, H6 y = none → H y = none := fun {y} hy => by
      cases h : H y with
      | none => rfl
      | some o =>
        have h1 : y ≠ l := fun z => by rw [z, l6] at hy; cases hy
        have h2 : y ≠ p := fun z => by rw [z, p6] at hy; cases hy
        have := k6 _ _ h1 h2 h
        rw [hy] at this
        cases this
    have apart : ∀ {y z o}, H6 y = none → H6 z = some o → y ≠ z := fun hy hz e => by
      rw [e, hz] at hy
      cases hy
    have n23 := apart na2 h3a
    have n23' := apart na2 h3b
    have m23 := apart nb2 h3a
    have m23' := apart nb2 h3b
    exact k a2 b2 a3 b3 t2 H7 (back na2) (back nb2) hx7 h7a h7b (k7 _ _ hpx p6) (k7 _ _ hlx l6) (k7 _ _ (nex nt2) h3t) (k7 _ _ (nex na3) h3a) (k7 _ _ (nex nb3) h3b) (by simp [hab2, n23, n23', m23, m23', hab]) fun y o h1 h2 h3 h => k7 _ _ h1 (k6 _ _ h3 h2 h)
end
end Cp

/-! o.f = e, f a property of the class with a setter. -/
namespace GP
open PySem PySem.Spec PyProof.Rows L2
/-- the name is a property at p in the class, its setter the def at g -/
structure PropSet (K : PySem.W.Frag) (C : Addr) (f : Str) (p g : Addr) : Prop where
  tk : PySem.W.takerIn K C f = some (some (.ref p))
  ty : PySem.W.typeIn K (.ref p) = some (.type "property")
  rc : ∃ a rest, PySem.W.recIn K p "property" = some (a :: .ref g :: rest)
def sProp (C : Addr) (sp : Sp) (E : XK) (ta tv : TE) : TS := fun D σ H => tv σ H fun y H1 => ta σ H1 fun x H2 => ∃ a dx fs, x = .ref a ∧ H2 a = some (.ins C dx fs) ∧ sp [.ref a, y] H2 (fun _ H3 => D.nx σ H3) E
section
variable {X : Cx} {CX : CXT} {k : Nat} {C p g : Addr} {f : Str} {fd : FuncData} {ps : List Str} {sp : Sp} {E : XK} {o value : Expr} {pos pos' : Pos} {ta tv : TE}
theorem ps_prop (ha : PE X o ta) (hv : PE X value tv) (c : Cls X.K C) (hp : PropSet X.K C f p g) (F : FnOk X.prog X.w X.K X.mg X.base CX k g fd ps sp) (hr : Room (k + 2) X.A) (hb : Binds X.K fd ps []) (hx : Passes CX X E)
    (hs : swapsWith value (some (.Attribute o f pos')) pos.line X.env = pure false) : PS X (.Assign [.Attribute o f pos'] value pos) (sProp C sp E ta tv) := by
  refine ⟨fun pins s σ H D I h => ?_⟩
  refine plainObj_wpAny_Assign_Attribute (thn (hv.run pins s σ H _ I h) fun u s1 ⟨y, H1, I1, ry, q⟩ => thn (ha.run pins s1 σ H1 _ I1 q) fun ov s2 ⟨x, H2, I2, rx, a, dx, fs, ex, ea, q2⟩ => ?_) hs
  subst ex
  obtain rfl : ov = Value.ref a := rx
  obtain ⟨mA, O, _, _, _, _⟩ := ins_get I2.hok ea
  obtain ⟨od, J, _⟩ := O.look
  obtain ⟨a0, rest, hrec⟩ := hp.rc
  have I3 := I2.tok (s2.toks + 1)
  have r2 : Vals [V.ref a, y] [Value.ref a, u] := .cons rfl (.cons ry .nil)
  have hl : ([Value.ref a, u] ++ ([] : List Value)).length = ps.length := by
    rw [List.append_nil, ← r2.length]
    exact F.len _ _ _ _ q2
  refine PySem.W.set_plain I2.kIn J c.sa (PySem.W.osa_descr (s := { s2 with toks := s2.toks + 1 }) PySem.W.KF.slot_pset I2.kIn J c.po hp.tk hp.ty (PySem.W.prop_set (s := { s2 with toks := s2.toks + 1 }) I2.kIn hrec
    (codeAny_mono (F.run X.A.in1.in1 X.stack { s2 with toks := s2.toks + 1 } H2 ⟨[.ref a, u], []⟩ [.ref a, u] [.ref a, y] _ E hr.in1.in1 I3.env0.in1.in1 (hb { s2 with toks := s2.toks + 1 } [.ref a, u] I3.kIn hl) r2 q2) fun r s' hq => ?_)))
  cases r with
  | error e => exact hx pins σ H2 { s2 with toks := s2.toks + 1 } e s' I3 hq
  | ok fl =>
    cases fl with
    | ret z =>
      obtain ⟨v, H3, I4, _, q4⟩ := I3.after hq
      exact ⟨σ, H3, I4, q4⟩
    | next => exact False.elim hq
    | brk => exact False.elim hq
    | cont => exact False.elim hq
end
end GP

/-! a, b, *c = a tuple. -/
namespace GN
open PySem PySem.Spec PySem.Calls PyProof.Rows PySem.W
section
variable {prog : Program} {w : World} {A : Around} {E : Value → Shared → Prop} {s : Shared}
theorem unpack_star2 {l : Addr} {items : Array Value} {x y : Value} {rest : List Value} {Q : List Value → Shared → Prop} (hl : IsTup s.heap l items) (hh : A.handled = none) (hx : items.toList = x :: y :: rest) (hz : items.size ≤ 16384)
    (h : ∀ h' tk, (∀ b o, s.heap.get? b = some o → h'.get? b = some o) → wpAny (model prog w) A (newList rest) (fun d => Q [x, y, d]) E { s with heap := h', toks := tk }) : wpAny (model prog w) A (unpackItems (.ref l) 3 (some 2)) Q E s := by
  have hsz : items.size = rest.length + 2 := by rw [← Array.length_toList, hx, List.length_cons, List.length_cons]
  have hlt : l ≠ s.heap.objs.size := by
    obtain ⟨o, ho, _⟩ := hl
    exact Nat.ne_of_lt (Heap.lt_size ho)
  unfold unpackItems
  refine wpAny_bind ?_
  unfold notIterableAtAll
  refine wpAny_bind (wpAny_specialOf hl.typeIs slot_tuple_iter.lookup (wpAny_pure ?_))
  simp only [Bool.false_eq_true, if_false]
  refine wpAny_bind (wpAny_holding (iter_tuple hl ?_))
  refine wpAny_bind (wpAny_holding (draw_tuple hlt 2 0 _ _ ⟨_, Heap.get?_push_size _ rfl, rfl, rfl⟩ (hl.push _) (by omega) fun h₁ hit₁ hs₁ => ?_))
  have hl₁ : IsTup h₁ l items := (hl.push _).extBut hs₁.extBut hlt
  rw [Nat.zero_add] at hit₁
  obtain ⟨oi, hoi, _⟩ := id hit₁
  obtain ⟨ol, hol, _⟩ := id hl₁
  rw [List.drop_zero]
  have h1 : items.toList.take 2 = [x, y] := by rw [hx]; rfl
  have h2 : items.toList.drop 2 = rest := by rw [hx]; rfl
  rw [h1, if_neg (show ¬ ([x, y].length < 2) by simp)]
  refine wpAny_bind (wpAny_holding (kun_collect (s := { s with heap := h₁ }) (T := "tuple_iterator") (.inr (.inr (.inr rfl))) (Walks.tuple (A := A.in1) hh s.heap.objs.size l hlt items) (fun j u st => st.1.typeIs) (k := 2) (by omega) ⟨hit₁, hl₁⟩ (Heap.lt_size hoi) (Heap.lt_size hol) (fun h₂ tk hk => ?_) (by rw [sizeLine_eq]; omega)))
  rw [h2]
  show wpAny _ _ (if rest.length < 3 - 2 - 1 then _ else _) _ E _
  rw [if_neg (by omega)]
  show wpAny _ _ (newList (rest.take (rest.length - 0)) >>= fun d => pure ([x, y] ++ [d] ++ rest.drop (rest.length - 0))) _ E _
  rw [Nat.sub_zero, List.take_length, List.drop_length]
  have he : ∀ b o, s.heap.get? b = some o → h₂.get? b = some o := fun b o e => by
    have hb : b ≠ s.heap.objs.size := Nat.ne_of_lt (Heap.lt_size e)
    exact hk b o hb (hs₁.extBut b o hb (Heap.get?_push_of_some _ e))
  exact wpAny_bind (wpAny_mono (h h₂ tk he) (fun d s' q => wpAny_pure q) fun _ _ z => z)
end
open L2 in
/-- a, b, *c = t: a in slot i, b in slot j, the rest as a new list in slot m -/
def gStar2 (K : PySem.W.Frag) (i j m : Nat) : L2.TG := fun v σ H Q => ∃ a x y xs, v = .ref a ∧ SqT K H a (x :: y :: xs) ∧ xs.length ≤ 1000 ∧ ∀ p, H p = none → Q (((σ.set i (some x)).set j (some y)).set m (some (.ref p))) (upd H p (.lst xs))
open L2 in
theorem pg_star2 {X : Cx} {x1 x2 x3 : Str} {p1 p2 p3 p4 pos : Pos} {kk i j m : Nat} (hc : X.calm = true) (hN : X.N.Nodup) (hi : X.N[i]? = some x1) (hj : X.N[j]? = some x2) (hm : X.N[m]? = some x3) (l1 : Loc X.env.scope x1) (l2 : Loc X.env.scope x2) (l3 : Loc X.env.scope x3)
    (f1 : X.fn x1 = true ∨ X.env.scope.names.lookup x1 = some .local) (f2 : X.fn x2 = true ∨ X.env.scope.names.lookup x2 = some .local) (f3 : X.fn x3 = true ∨ X.env.scope.names.lookup x3 = some .local)
    (ha : ∀ v1 v2 v3, assignInOrder ((assignEach [.Name x1 p1, .Name x2 p2, .Starred (.Name x3 p3) p4] X.env).map (·.2)) [v1, v2, v3] = assignInOrder ((assignEach [.Name x1 p1, .Name x2 p2, .Name x3 p3] X.env).map (·.2)) [v1, v2, v3] := by intro _ _ _; rfl)
    (hn : (assignEach [.Name x1 p1, .Name x2 p2, .Starred (.Name x3 p3) p4] X.env).length = 3 := by rfl) (hst : (assignEach [.Name x1 p1, .Name x2 p2, .Starred (.Name x3 p3) p4] X.env).findIdx? (·.1) = some 2 := by rfl) : PG X (.Tuple [.Name x1 p1, .Name x2 p2, .Starred (.Name x3 p3) p4] kk pos) (gStar2 X.K i j m) := by
  refine ⟨fun pins s σ H v u Q I r hw => ?_⟩
  obtain ⟨a, x, y, xs, rfl, hq, hl, q⟩ := hw
  obtain rfl : u = Value.ref a := r
  obtain ⟨its, rv, p, hz⟩ := I.tuple hq
  cases rv with
  | cons rx rr0 =>
    rename_i ux ur0
    cases rr0 with
    | cons ry rr =>
      rename_i uy ur
      rw [assign_Tuple]
      refine wpAny_bind (wpAny_standAt ?_)
      unfold unpack
      rw [hn, hst]
      have lr := rr.length
      refine wpAny_bind (wpAny_holding (unpack_star2 (l := a) (items := (ux :: uy :: ur).toArray) (x := ux) (y := uy) (rest := ur) p (I.ok.hd hc) rfl (by simp; omega) fun h' tk hk => ?_))
      have I1 : Inv X pins σ H { s with heap := h', toks := tk } := I.kept hk
      have hsz : (ur.length : Nat) ≤ sizeLine := by rw [← lr]; exact Nat.le_trans hl (by decide)
      refine wpAny_newList ?_ hsz
      have hq2 := q h'.objs.size (I1.hok.fresh (Nat.le_refl _))
      have I2 : Inv X pins σ (upd H h'.objs.size (.lst xs)) { s with heap := h'.push { cls := .type "list", data := .seq ur.toArray }, toks := tk } := I1.laid (t' := tk) (fun b o e => Heap.get?_push_of_some _ e) (Nat.le_refl _) ⟨by rw [lr]; exact hsz, ur, 0, rr, Heap.get?_push_size _ rfl⟩
      rw [ha]
      exact (pgs_cons (X := X) (pg_name hN hi l1 f1) (pgs_cons (pg_name hN hj l2 f2) (pgs_cons (pg_name hN hm l3 f3) pgs_nil))).run pins _ σ _ [x, y, .ref h'.objs.size] _ Q I2 (.cons rx (.cons ry (.cons rfl .nil))) ⟨x, _, rfl, y, _, rfl, .ref h'.objs.size, _, rfl, rfl, hq2⟩
end GN

namespace Cp
open PySem PySem.Spec PyProof.Rows L2 Evl GN GZ
/-- D.get(k, x), D a written dict of the module -/
def tKGet2 (K : PySem.W.Frag) (d : Addr) (td ty tx : TE) : TE := fun σ H Q => td σ H fun x H1 => x = .ref d ∧ ty σ H1 fun y H2 => tx σ H2 fun z H3 => ∃ (w : Str) (r : Option Value) (v : V), y = .str w ∧ PySem.W.nsIn K d w = some r ∧ (∀ u, r = some u → RelV v u) ∧ (r = none → v = z) ∧ Q v H3
theorem pe_kget2 {X : Cx} {d : Addr} {es : Array DictEntry} {n : Nat} {o e f : Expr} {apos cpos : Pos} {td ty tx : TE} (D : KDict X.K X.w d es n) (ho : PE X o td) (he : PE X e ty) (hf : PE X f tx) (m : M2 X o "get" apos e f cpos) : PE X (.Call (.Attribute o "get" apos) [e, f] [] cpos) (tKGet2 X.K d td ty tx) := by
  refine ⟨fun pins s σ H Q I h => wpAny_Call_method m.base m.few m.line PySem.F.plainAttrs_dict PySem.F.slot_dict_get PySem.F.type_dict_get (thn (ho.run pins s σ H _ I h) fun u s1 ⟨x, H1, I1, rx, ex, q1⟩ => ?_)⟩
  subst ex
  obtain rfl : u = Value.ref d := rx
  refine ⟨kd_type D I1, fun b hb => ?_, ?_⟩
  · cases hb
    exact ⟨_, I1.kIn _ _ D.at_, rfl⟩
  rw [m.trees]
  refine Calls.callWith_builtin rfl (Calls.evalArgs_plain (Calls.spliced_cons (thn (he.run pins s1 σ H1 _ I1 q1) fun iv s2 ⟨y, H2, I2, ry, q2⟩ =>
    Calls.spliced_cons (thn (hf.run pins s2 σ H2 _ I2 q2) fun fv s3 ⟨z, H3, I3, rz, w, r, v, ey, hr, h1, h2, q3⟩ => Calls.spliced_nil ?_))))
  subst ey
  obtain ⟨t, rfl⟩ := ry
  have mo := PySem.W.mapOf_K (prog := X.prog) (w := X.w) I3.kIn D.at_ D.lit
  refine call_meetsIn PySem.F.slot_dict_get mo.typeIs PySem.F.entry_dict_get (PySem.F.args_dict_get_3 _ _ _) (meets_dict_get_default (PySem.strKind X.prog X.w) d (PySem.strKind_is X.prog X.w w t) D.low fv) ⟨_, mo, ?_⟩
  rw [PySem.W.find_K D.at_ hr]
  refine ⟨v, H3, I3.tok _, ?_, q3⟩
  cases r with
  | some u => exact h1 u rfl
  | none =>
    rw [h2 rfl]
    exact rz
/-- how long a deed of that word is -/
def deedN (z : Str) : Int := if z = "drop" then 2 else 3
def Deeds (K : PySem.W.Frag) (d : Addr) : Prop := ∀ z ∈ [("put" : Str), "copy", "drop"], ∃ u, PySem.W.nsIn K d z = some (some u) ∧ RelV (.int (deedN z)) u
theorem ev_kget {K : PySem.W.Frag} {σ : L2.St} {H : Hp} {d : Addr} {td ty tx : TE} {z : Str} (hF : Deeds K d) (hd : Ev td σ H (.ref d)) (hy : Ev ty σ H (.str z)) (hx : Ev tx σ H (.int 0)) (hz : z ∈ [("put" : Str), "copy", "drop"]) : Ev (tKGet2 K d td ty tx) σ H (.int (deedN z)) := fun H1 e Q q =>
  hd H1 e _ fun H2 e2 => ⟨rfl, hy H2 (e.trans e2) _ fun H3 e3 => hx H3 ((e.trans e2).trans e3) _ fun H4 e4 => by
    obtain ⟨u, a, b⟩ := hF z hz
    exact ⟨z, some u, _, rfl, a, (fun u' h => by
      have h := Option.some.inj h
      subst h
      exact b), (fun h => (nomatch h)), q H4 ((e2.trans e3).trans e4)⟩⟩
/-- a deed: its word, its items -/
inductive DeedOk : Str → List V → Prop
  | put (nm : Str) : DeedOk "put" [.str nm, .str theText]
  | copy (nm o : Str) : DeedOk "copy" [.str nm, .str o]
  | drop (nm : Str) : DeedOk "drop" [.str nm]
theorem DeedOk.mem {z : Str} {r : List V} (h : DeedOk z r) : z ∈ [("put" : Str), "copy", "drop"] := by
  cases h <;> simp
theorem DeedOk.len {z : Str} {r : List V} (h : DeedOk z r) : decide (deedN z = ((r.length + 1 : Nat) : Int)) = true := by
  cases h with
  | put nm => exact (by decide +kernel : decide (deedN "put" = ((2 + 1 : Nat) : Int)) = true)
  | copy nm o => exact (by decide +kernel : decide (deedN "copy" = ((2 + 1 : Nat) : Int)) = true)
  | drop nm => exact (by decide +kernel : decide (deedN "drop" = ((1 + 1 : Nat) : Int)) = true)
theorem DeedOk.few {z : Str} {r : List V} (h : DeedOk z r) : r.length ≤ 2 := by
  cases h <;> simp
theorem sc_ck : FnScope ["self", "deed"] ["self", "deed"] (defScope (mS 14)) := ⟨rfl, rfl, rfl, by decide +kernel, rfl, by decide +kernel, by decide +kernel⟩
def spCk (K : PySem.W.Frag) : Sp := fun vs H Q _ => ∃ (x : V) (t : Addr) (z : Str) (r : List V), vs = [x, .ref t] ∧ SqT K H t (.str z :: r) ∧ (∃ ys, H t = some (.tup ys)) ∧ DeedOk z r ∧ RetV .non H Q
section
variable {P : Program} {w : World} {K : PySem.W.Frag} {mg : Str → Option Value} {base : Heap} {f : Addr} {fd : FuncData} {C : Addr}
theorem ok_ck {dF : Addr} {es : Array DictEntry} {n : Nat} (F : MeP K "check" "Shelf.check" (mS 14) f fd) (gI : mg "isinstance" = none) (gT : mg "tuple" = none) (gS : mg "str" = none) (gL : mg "len" = none) (gD : mg "DEEDS" = some (.ref dF)) (D : KDict K w dF es n) (hF : Deeds K dF) : FnOk P w K mg base CX0 1 f fd ["self", "deed"] (spCk K) := by
  refine F.ok sc_ck (fun vs H Q E h => ?_) (fun cdv A outer s H vs Q E hr h => ?_)
  · obtain ⟨x, t, z, r, rfl, _⟩ := h
    rfl
  · obtain ⟨x, t, z, r, rfl, ht, ⟨ys, hty⟩, hd, k⟩ := h
    refine ⟨_, pss_cons (by
        exact ps_if (PW.pt (pw_or (pt_not (pt_val (by
          exact pe_callB call_isi (by rfl) gI boot_isinstance (pa_cons (pv 1) (pa_cons (pe_bltn (v := .ty "tuple") (by rfl) gT boot_tuple rfl) pa_nil))) (by intro _; rfl))) (pw_or (by
          exact pt_cmpR op_eq (pe_callB call_len_seq (by rfl) gL PySem.boot_len (pa_cons (pv 1) pa_nil)) pe_int (nomark _)) (pw_or1 (pt_not (pt_val (by
          exact pe_callB call_isi (by rfl) gI boot_isinstance (pa_cons (pe_ix ix_tup (pv 1) pe_int (fun _ _ => rfl)) (pa_cons (pe_bltn (v := .ty "str") (by rfl) gS boot_str rfl) pa_nil))) (by intro _; rfl))))))) pss_no pss_nil) <| pss_one (by
        exact ps_if (pt_cmpR op_ne (pe_kget2 D (pe_glob (v := .ref dF) (by rfl) gD rfl) (pe_ix ix_tup (pv 1) pe_int (fun _ _ => rfl)) pe_int ⟨rfl, rfl, rfl, rfl⟩) (pe_callB call_len_seq (by rfl) gL PySem.boot_len (pa_cons (pv 1) pa_nil)) (nomark _)) pss_no pss_nil), ?_⟩
    refine q_no (et_orF (et_is (et_not (et_B (ev_cb (z := .bl true) (ea_cons (ev_var rfl) (ea_cons ev_c ea_nil)) fun H1 e1 Q1 q1 => ?_))) rfl) (et_orF (et_is (et_eq (ev_lenQ (ev_var rfl) (.inr ht)) ev_c rfl) (decide_eq_false fun e => ?_)) (et_is (et_not (et_B (ev_cb (z := .bl true) (ea_cons (ev_ixT (ev_var rfl) ev_c ht (at_of rfl rfl)) (ea_cons ev_c ea_nil)) fun H1 e1 Q1 q1 => ?_))) rfl))) fun H1 e1 => ?_
    · exact ⟨_, _, .type "tuple", .type "tuple", true, rfl, .ty _, .base (.tup (e1 _ _ hty)), kit_ty (by decide +kernel), q1 H1 (Ex.refl _)⟩
    · have e := V.int.inj e
      rw [List.length_cons] at e
      omega
    · exact ⟨_, _, .type "str", .type "str", true, rfl, .ty _, .base (.str _), kit_ty (by decide +kernel), q1 H1 (Ex.refl _)⟩
    · refine s_when (b := false) (et_is (et_ne (ev_kget hF ev_c (ev_ixT (ev_var rfl) ev_c (ex_t e1 ht) (at_of rfl rfl)) ev_c hd.mem) (ev_lenQ (ev_var rfl) (.inr (ex_t e1 ht))) rfl) ?_) (fun z => (nomatch z)) fun _ H2 e2 => k.go (e1.trans e2)
      have e1 : decide (V.int (deedN z) = V.int ((V.str z :: r).length : Nat)) = decide (deedN z = ((r.length + 1 : Nat) : Int)) := by
        rw [List.length_cons]
        exact decide_eq_decide.mpr ⟨V.int.inj, fun h => by rw [h]⟩
      rw [e1, hd.len]
      rfl
end
end Cp

namespace Cp
open PySem PySem.Spec PyProof.Rows L2 Evl GN GZ
section
variable {X : Cx}
theorem pt_no {e : Expr} : PT X e (fun _ _ _ => False) := ⟨fun _ _ _ _ _ _ h => h.elim⟩
end
section
variable {K : PySem.W.Frag} {σ : L2.St} {H : Hp} {te tk tv : TE} {g : L2.TG} {tt : TT} {vs : List Nat} {D0 : Addr} {od : Obj}
/-- {..: .. for .. in d}, d empty -/
theorem dc_emptyK (he : Ev te σ H (.ref D0)) (h0 : H D0 = some (.frz od (.dK []))) : ∀ H1, Ex H H1 → ∀ Q : VK, (∀ p H2, H1 p = none → Ex H1 H2 → H2 p = some (.dK []) → Q (.ref p) H2) → tDc (iKeys te) g tt tk tv vs σ H1 Q := fun H1 e1 Q q =>
  he H1 e1 _ fun H2 e2 => ⟨D0, od, rfl, .inl ⟨[], (e1.trans e2) _ _ h0, fun D hD => ⟨fun _ _ H' => H' = upd H2 D (.dK []), ⟨0, rfl⟩, fun i m H' hw => by
    subst hw
    refine .inl ⟨⟨Ex.new hD _ _ ((e1.trans e2) _ _ h0), Nat.zero_le _⟩, q D _ (fresh_back e2 hD) (e2.trans (Ex.new hD)) upd_same⟩⟩⟩⟩
theorem dc_emptyI (he : Ev te σ H (.ref D0)) (h0 : H D0 = some (.frz od (.dK []))) : ∀ H1, Ex H H1 → ∀ Q : VK, (∀ p H2, H1 p = none → Ex H1 H2 → H2 p = some (.dK []) → Q (.ref p) H2) → tDc (iItems te) g tt tk tv vs σ H1 Q := fun H1 e1 Q q =>
  he H1 e1 _ fun H2 e2 => ⟨D0, od, [], rfl, (e1.trans e2) _ _ h0, fun D hD => ⟨fun _ _ H' => H' = upd H2 D (.dK []), ⟨0, rfl⟩, fun i m H' hw => by
    subst hw
    refine .inl ⟨⟨Ex.new hD _ _ ((e1.trans e2) _ _ h0), Nat.zero_le _⟩, q D _ (fresh_back e2 hD) (e2.trans (Ex.new hD)) upd_same⟩⟩⟩
/-- locked, then unlocked: as it was -/
theorem ex_unlock {H2 : Hp} {d : Addr} {u : HO} (hd : H d = some u) (e : Ex (upd H d (.frz od u)) H2) : Ex H (upd H2 d u) := fun a o h => by
  by_cases z : a = d
  · rw [z, upd_same]
    rw [z, hd] at h
    exact h
  · rw [upd_ne z]
    exact e _ _ (by rw [upd_ne z]; exact h)
theorem none_unlock {d p : Addr} {u : HO} (hp : (upd H d (.frz od u)) p = none) : p ≠ d ∧ H p = none := by
  by_cases z : p = d
  · rw [z, upd_same] at hp
    cases hp
  · exact ⟨z, by rw [upd_ne z] at hp; exact hp⟩
end
theorem sc_vk : FnScope ["self", "at"] ["self"] (defScope (mS 13)) := ⟨rfl, rfl, rfl, by decide +kernel, rfl, by decide +kernel, by decide +kernel⟩
/-- no wishes: a new empty dict -/
def spVk (C : Addr) : Sp := fun vs H Q _ => ∃ x dx a b n r p l d, vs = [.ref x] ∧ H x = some (.ins C dx (shF a b n r p l d)) ∧ H b = some (.dK []) ∧ ∀ q H2, H q = none → Ex H H2 → H2 q = some (.dK []) → Q (.ref q) H2
section
variable {P : Program} {w : World} {K : PySem.W.Frag} {mg : Str → Option Value} {base : Heap} {f : Addr} {fd : FuncData} {C : Addr}
theorem ok_vk (F : MeP K "values_kept" "Shelf.values_kept" (mS 13) f fd) (sc : SC K C) : FnOk P w K mg base CX0 1 f fd ["self"] (spVk C) := by
  refine F.ok sc_vk (fun vs H Q E h => ?_) (fun cdv A outer s H vs Q E hr h => ?_)
  · obtain ⟨x, dx, a, b, n, r, p, l, d, rfl, _⟩ := h
    rfl
  · obtain ⟨x, dx, a, b, n, r, p, l, d, rfl, hx, hb, k⟩ := h
    refine ⟨_, pss_one (by
      refine ps_ret (pe_lock (by
        exact pe_dc (own := [("at", 1)]) (g := gName 1) (tt := tYes) (tk := tVar 1) (tv := fun _ _ _ => False) rfl sc_vk.nd (pi_keys (pe_fld (pv 0) rfl)) (blkOk_by (by kernel_rfl)) (fun _ _ _ _ _ => pg_name (i := 1) sc_vk.nd rfl (Or.inl rfl)) (fun _ _ _ _ _ => pts_nil) (fun _ _ _ _ _ => by exact pv 1) (fun _ _ _ _ _ => pe_no)))), ?_⟩
    have hxb : x ≠ b := fun z => by rw [z, hb] at hx; cases hx
    refine ⟨b, _, hb, trivial, fun od => ?_⟩
    refine dc_emptyK (te := tFld K (tVar 0) "wishes") (ev_fld (ev_var rfl) (by rw [upd_ne hxb]; exact hx) sc.cls sc.wishes rfl) upd_same _ (Ex.refl _) _ fun q H2 hq e2 h2 => ⟨e2 b _ upd_same, ?_⟩
    obtain ⟨nq, hq⟩ := none_unlock hq
    exact k q _ hq (ex_unlock hb e2) (by rw [upd_ne nq]; exact h2)
end
end Cp

namespace Cp
open PySem PySem.Spec PyProof.Rows L2 Evl GN GZ
def Nac : List Str := ["self", "deed", "word", "first", "rest", "at", "wish", "way"]
theorem sc_ac : FnScope Nac ["self", "deed"] (defScope (mS 17)) := ⟨rfl, rfl, rfl, by decide +kernel, rfl, by decide +kernel, by decide +kernel⟩
/-- a deed that there is no space for -/
def noRoom (ks : List (L2.Key × V)) (r : Int) : Str → List V → Prop
  | _, [.str nm, _] => valV ks (.inr nm) = none ∧ r ≤ (ks.length : Int)
  | _, _ => False
/-- what must be there -/
def deedAt (ks : List (L2.Key × V)) : Str → List V → Prop
  | z, [.str nm, .str o] => isW nm = true ∧ 1 ≤ nm.length ∧ nm.length ≤ 6 ∧ (z = "copy" → (valV ks (.inr o)).isSome = true)
  | _, [.str nm] => (valV ks (.inr nm)).isSome = true
  | _, _ => False
/-- the programs behind it -/
def deedTo (ks ks' : List (L2.Key × V)) : List V → Prop
  | [.str nm, _] => ∃ v, ks' = putK ks (.inr nm) v
  | [.str nm] => ks' = dropK ks (.inr nm)
  | _ => False
def spAc (K : PySem.W.Frag) (C CF : Addr) : Sp := fun vs H Q E => ∃ x dx a b n r p l d t z rest, ∃ (ks : List (L2.Key × V)), vs = [.ref x, .ref t] ∧ H x = some (.ins C dx (shF a b n r p l d)) ∧ H a = some (.dK ks) ∧ H b = some (.dK []) ∧ a ≠ b ∧ ks.length ≤ 100 ∧
  H t = some (.tup (.str z :: rest)) ∧ DeedOk z rest ∧ deedAt ks z rest ∧
  (noRoom ks r z rest → ∀ dd H', H' dd = some (.xd (fFu (.int r))) → Ex H H' → E (.ref CF) (some dd) H') ∧
  (¬ noRoom ks r z rest → ∀ ks' b2 H2, deedTo ks ks' rest → H2 x = some (.ins C dx (shF a b2 n r p l d)) → H2 a = some (.dK ks') → H2 b2 = some (.dK []) → (b2 = b ∨ H b2 = none) → (∀ y o, y ≠ x → y ≠ a → H y = some o → H2 y = some o) → Q .non H2)
section
variable {P : Program} {w : World} {K : PySem.W.Frag} {mg : Str → Option Value} {base : Heap} {f : Addr} {fd : FuncData} {C CF CN : Addr}
theorem ok_ac (F : MeP K "act" "Shelf.act" (mS 17) f fd) (sc : SC K C) (CK : Mcal P w K mg base C "check" CX0 1 ["self", "deed"] (spCk K)) (NW : Mcal P w K mg base C "need_word" CX0 2 ["self", "name"] spNw)
    (PL : Mcal P w K mg base C "place" (L2N.CX P w) 3 ["self", "name", "program"] (spPc C CF)) (PG : Mcal P w K mg base C "program" (CX P w) 3 ["self", "name"] (spPg C CN)) (RP : Cal P w K mg base "read_program" 10 ["text"] spRp) : FnOk P w K mg base (L2N.CX P w) 11 f fd ["self", "deed"] (spAc K C CF) := by
  refine F.ok sc_ac (fun vs H Q E h => ?_) (fun cdv A outer s H vs Q E hr h => ?_)
  · obtain ⟨x, dx, a, b, n, r, p, l, d, t, z, rest, ks, rfl, _⟩ := h
    rfl
  · have hrm := fun j (h : j ≤ 10) => hr.mono (j := j) h
    obtain ⟨x, dx, a, b, n, r, p, l, d, t, z, rest, ks, rfl, hx, ha, hb, hab, hn, ht, hd, hat, kE, kN⟩ := h
    refine ⟨_, pss_cons (by
        exact ps_expr (pe_meth (pv 0) sc.cls CK.m CK.G (hrm 1 (by decide)) CK.b .nil pass0 (pa_cons (pv 1) pa_nil))) <| pss_cons (by
        exact ps_asg (pv 1) (pg_star2 (i := 2) (j := 3) (m := 4) rfl sc_ac.nd rfl rfl rfl (Or.inl rfl) (Or.inr rfl) (Or.inl rfl) (Or.inr rfl) (Or.inl rfl) (Or.inr rfl))) <| pss_cons (by
        exact ps_if (pt_cmpR op_in_seq (pv 2) (pe_tup (pa_cons pe_str (pa_cons pe_str pa_nil))) (by rfl)) (pss_one (by
          exact ps_expr (pe_meth (pv 0) sc.cls NW.m NW.G (hrm 2 (by decide)) NW.b .nil pass0 (pa_cons (pv 3) pa_nil)))) pss_nil) <| pss_one (by
        refine ps_if (pt_cmpR op_eq (pv 2) pe_str (nomark _)) (pss_one (by
          exact ps_expr (pe_meth (pv 0) sc.cls PL.m PL.G (hrm 3 (by decide)) PL.b .nil (L2N.passes_call (L2N.takes_of rfl rfl rfl rfl) fun _ _ _ _ h => h) (pa_cons (pv 3) (pa_cons (pe_call RP.G hr (by rfl) RP.g RP.k RP.b .nil pass0 (pa_cons (pe_ix ix_list (pv 4) pe_int (fun _ _ => rfl)) pa_nil)) pa_nil))))) (pss_one (by
        refine ps_if (pt_cmpR op_eq (pv 2) pe_str (nomark _)) (pss_one (by
          exact ps_expr (pe_meth (pv 0) sc.cls PL.m PL.G (hrm 3 (by decide)) PL.b .nil (L2N.passes_call (L2N.takes_of rfl rfl rfl rfl) fun _ _ _ _ h => h) (pa_cons (pv 3) (pa_cons (pe_meth (pv 0) sc.cls PG.m PG.G (hrm 3 (by decide)) PG.b .nil passE (pa_cons (pe_ix ix_list (pv 4) pe_int (fun _ _ => rfl)) pa_nil)) pa_nil))))) (pss_one (by
        refine ps_if (pt_cmpR op_eq (pv 2) pe_str (nomark _)) (pss_cons (by
          exact ps_expr (pe_meth (pv 0) sc.cls PG.m PG.G (hrm 3 (by decide)) PG.b .nil passE (pa_cons (pv 3) pa_nil))) <| pss_cons (by
          exact ps_ddel (pe_fld (pv 0) rfl) (pv 3)) <| pss_one (by
          refine ps_asg (pe_lock (by
            exact pe_dc (own := [("at", 5), ("wish", 6)]) (g := gTup K 2 (gCons (gName 5) (gCons (gName 6) gNil))) (tt := fun _ _ _ => False) (tk := fun _ _ _ => False) (tv := fun _ _ _ => False) rfl sc_ac.nd (pi_items (pe_fld (pv 0) rfl)) (blkOk_by (by kernel_rfl)) (fun _ _ _ _ _ => pg_tup rfl (pgs_cons (pg_name (i := 5) sc_ac.nd rfl (Or.inl rfl)) (pgs_cons (pg_name (i := 6) sc_ac.nd rfl (Or.inl rfl)) pgs_nil))) (fun _ _ _ _ _ => pts_one pt_no) (fun _ _ _ _ _ => pe_no) (fun _ _ _ _ _ => pe_no))) (pg_fld (pv 0)))) pss_no))))), ?_⟩
    refine q_drop (v := .non) (ev_meth (ev_var rfl) hx rfl (ea_cons (ev_var rfl) ea_nil) (RetV.call fun H1 e Q E q => ⟨_, t, z, rest, rfl, ex_t e (st_of ht), ⟨_, e _ _ ht⟩, hd, q⟩)) fun H1 e1 => ?_
    obtain ⟨nm, more, rfl⟩ : ∃ nm more, rest = .str nm :: more := by cases hd <;> exact ⟨_, _, rfl⟩
    refine q_asgW ?_
    refine ⟨.ref t, rfl, t, .str z, .str nm, more, rfl, st_of (e1 _ _ ht), (by have := hd.few; simp at this; omega), fun q hq => ?_⟩
    have e2 : Ex H (upd H1 q (.lst more)) := e1.trans (Ex.new hq)
    have hq2 : (upd H1 q (.lst more)) q = some (.lst more) := upd_same
    generalize upd H1 q (.lst more) = H2 at e2 hq2 ⊢
    have hax : a ≠ x := fun z => by rw [z, hx] at ha; cases ha
    cases hd with
    | put _ =>
      obtain ⟨hw, h1, h6, _⟩ := hat
      refine q_yes (et_test (ev_is (ev_inU (ev_var rfl) (eu_tup (ea_cons ev_c (ea_cons ev_c ea_nil)) (by simp)) rfl rfl) (by decide +kernel))) fun H3 e3 => ?_
      refine s_drop (v := .non) (ev_meth (ev_var rfl) ((e2.trans e3) _ _ hx) rfl (ea_cons (ev_var rfl) ea_nil) (RetV.call fun H4 e4 Q E q => ⟨_, nm, rfl, hw, h1, h6, q⟩)) fun H4 e4 => ?_
      refine s_if (b := true) (et_eqs (ev_var rfl) ev_c (by decide +kernel)) (fun _ H5 e5 => ?_) (fun z => (nomatch z))
      have e25 := (e3.trans e4).trans e5
      have e05 := e2.trans e25
      refine ⟨.ref x, rfl, x, dx, _, rfl, e05 _ _ hx, rfl, .str nm, rfl, ?_⟩
      refine (ev_ixL (ev_var rfl) ev_c (sq_of (e25 _ _ hq2)) rfl) H5 (Ex.refl _) _ fun H6 e6 => ⟨rfl, fun pg H7 hpg e7 => ?_⟩
      have e07 := (e05.trans e6).trans e7
      refine ⟨x, dx, a, b, n, r, p, l, d, ks, nm, .ref pg, rfl, e07 _ _ hx, e07 _ _ ha, hn, fun hv hr' dd H' hd' e' => kE ⟨hv, hr'⟩ dd H' hd' (e07.trans e'), fun hk H8 h8 k8 => ?_⟩
      exact kN (fun z => by have := hk z.1; have := z.2; omega) _ b H8 ⟨_, rfl⟩ (k8 _ _ (Ne.symm hax) (e07 _ _ hx)) h8 (k8 _ _ (Ne.symm hab) (e07 _ _ hb)) (.inl rfl) fun y o _ hy h => k8 _ _ hy (e07 _ _ h)
    | copy _ o =>
      obtain ⟨hw, h1, h6, ho⟩ := hat
      refine q_yes (et_test (ev_is (ev_inU (ev_var rfl) (eu_tup (ea_cons ev_c (ea_cons ev_c ea_nil)) (by simp)) rfl rfl) (by decide +kernel))) fun H3 e3 => ?_
      refine s_drop (v := .non) (ev_meth (ev_var rfl) ((e2.trans e3) _ _ hx) rfl (ea_cons (ev_var rfl) ea_nil) (RetV.call fun H4 e4 Q E q => ⟨_, nm, rfl, hw, h1, h6, q⟩)) fun H4 e4 => ?_
      refine s_if (b := false) (et_eqs (ev_var rfl) ev_c (by decide +kernel)) (fun z => (nomatch z)) (fun _ H5 e5 => ?_)
      refine s_if (b := true) (et_eqs (ev_var rfl) ev_c (by decide +kernel)) (fun _ H6 e6 => ?_) (fun z => (nomatch z))
      have e26 := ((e3.trans e4).trans e5).trans e6
      have e06 := e2.trans e26
      refine ⟨.ref x, rfl, x, dx, _, rfl, e06 _ _ hx, rfl, .str nm, rfl, ?_⟩
      refine ⟨.ref x, rfl, x, dx, _, rfl, e06 _ _ hx, rfl, ?_⟩
      refine (ev_ixL (ev_var rfl) ev_c (sq_of (e26 _ _ hq2)) rfl) H6 (Ex.refl _) _ fun H7 e7 => ?_
      have e07 := e06.trans e7
      refine ⟨x, dx, a, b, n, r, p, l, d, ks, o, rfl, e07 _ _ hx, e07 _ _ ha, fun hv => ?_, fun pg hv H8 e8 => ?_⟩
      · have := ho rfl
        rw [hv] at this
        cases this
      have e08 := e07.trans e8
      refine ⟨x, dx, a, b, n, r, p, l, d, ks, nm, pg, rfl, e08 _ _ hx, e08 _ _ ha, hn, fun hv hr' dd H' hd' e' => kE ⟨hv, hr'⟩ dd H' hd' (e08.trans e'), fun hk H8 h8 k8 => ?_⟩
      exact kN (fun z => by have := hk z.1; have := z.2; omega) _ b H8 ⟨_, rfl⟩ (k8 _ _ (Ne.symm hax) (e08 _ _ hx)) h8 (k8 _ _ (Ne.symm hab) (e08 _ _ hb)) (.inl rfl) fun y o _ hy h => k8 _ _ hy (e08 _ _ h)
    | drop _ =>
      refine q_no (et_test (ev_is (ev_inU (ev_var rfl) (eu_tup (ea_cons ev_c (ea_cons ev_c ea_nil)) (by simp)) rfl rfl) (by decide +kernel))) fun H3 e3 => ?_
      refine s_if (b := false) (et_eqs (ev_var rfl) ev_c (by decide +kernel)) (fun z => (nomatch z)) (fun _ H4 e4 => ?_)
      refine s_if (b := false) (et_eqs (ev_var rfl) ev_c (by decide +kernel)) (fun z => (nomatch z)) (fun _ H5 e5 => ?_)
      refine s_if (b := true) (et_eqs (ev_var rfl) ev_c (by decide +kernel)) (fun _ H6 e6 => ?_) (fun z => (nomatch z))
      have e06 := e2.trans (((e3.trans e4).trans e5).trans e6)
      refine ⟨.ref x, rfl, x, dx, _, rfl, e06 _ _ hx, rfl, .str nm, rfl, ?_⟩
      have hv0 : (valV ks (.inr nm)).isSome = true := hat
      refine ⟨x, dx, a, b, n, r, p, l, d, ks, nm, rfl, e06 _ _ hx, e06 _ _ ha, fun hv => ?_, fun pg hv H7 e7 => ?_⟩
      · rw [hv] at hv0
        cases hv0
      have e07 := e06.trans e7
      show sDDel (tFld K (tVar 0) "programs") (tVar 3) _ _ H7
      unfold sDDel
      refine (ev_fld (K := K) (f := "programs") (v := .ref a) (ev_var rfl) (e07 _ _ hx) sc.cls sc.programs rfl) H7 (Ex.refl _) _ fun H8 e8 => ⟨.str nm, rfl, ?_⟩
      have e08 := e07.trans e8
      refine ⟨a, ks, .inr nm, rfl, e08 _ _ ha, rfl, hv0, ?_⟩
      have k9 : ∀ y o, y ≠ a → H y = some o → (upd H8 a (.dK (dropK ks (.inr nm)))) y = some o := fun y o hy h => by
        rw [upd_ne hy]
        exact e08 _ _ h
      have a9 : (upd H8 a (.dK (dropK ks (.inr nm)))) a = some (.dK (dropK ks (.inr nm))) := upd_same
      generalize upd H8 a (.dK (dropK ks (.inr nm))) = H9 at k9 a9 ⊢
      have hb9 := k9 _ _ (Ne.symm hab) hb
      have hx9 := k9 _ _ (Ne.symm hax) hx
      have hxb : x ≠ b := fun z => by rw [z, hb] at hx; cases hx
      refine ⟨b, _, hb9, trivial, fun od => ?_⟩
      refine dc_emptyI (te := tFld K (tVar 0) "wishes") (ev_fld (ev_var rfl) (by rw [upd_ne hxb]; exact hx9) sc.cls sc.wishes rfl) upd_same _ (Ex.refl _) _ fun c H10 hc e10 h10 => ⟨e10 b _ upd_same, ?_⟩
      obtain ⟨ncb, hc⟩ := none_unlock hc
      have e11 := ex_unlock hb9 e10
      have c11 : (upd H10 b (.dK [])) c = some (.dK []) := by rw [upd_ne ncb]; exact h10
      generalize upd H10 b (.dK []) = H11 at e11 c11 ⊢
      have hxc : x ≠ c := fun z => by rw [← z, hx9] at hc; cases hc
      have hac : a ≠ c := fun z => by rw [← z, a9] at hc; cases hc
      have nHc : H c = none := by
        cases h : H c with
        | none => rfl
        | some o =>
          have := k9 _ _ (Ne.symm hac) h
          rw [hc] at this
          cases this
      refine ⟨.ref x, rfl, x, C, dx, shF a b n r p l d, rfl, e11 _ _ hx9, sc.cls, sc.wishes, (show (7 : Nat) < 1000 by decide), ?_⟩
      refine kN (fun z => z) _ c _ rfl (by rw [upd_same, show putF "wishes" (.ref c) (shF a b n r p l d) = shF a c n r p l d by kernel_rfl]) (by rw [upd_ne hax]; exact e11 _ _ a9) (by rw [upd_ne (Ne.symm hxc)]; exact c11) (.inr nHc) fun y o h1 h2 h => by
        rw [upd_ne h1]
        exact e11 _ _ (k9 _ _ h2 h)
end
end Cp

namespace GK
open PySem PySem.Spec PyProof.Rows L2 HotX
section
variable {X : Cx} {body : List Stmt} {f₀ : Stmt} {fs : List Stmt} {pos : Pos} {tb : WX → TS} {tf tfs : TS} {Wout : WX}
theorem fin_excN {pins : List (Addr × Obj)} {D : Ends} {u : Value} {s' : Shared} (hs : X.stack = X.env :: X.outer) (hf : X.env.frame = some X.env.locals) (hex : X.ex = []) (ok : X.Ok) (tk : L2.Takes X Wout)
    (hsu : ∀ (a : Addr) (pn : List (Addr × Obj)), L2H.HotC (X.suite a pn) → PSs (X.suite a pn) (f₀ :: fs) tfs) (xx : L2N.XE (X.tr (X.pn ++ pins) (fun x s₁ => wpAny (model X.prog X.w) X.A (noteFrame x X.env) (fun _ s₂ => FinallyRaised X.prog X.w X.A X.xe X.env (f₀ :: fs) (SP X pins D) x s₂) (FinallyRaised X.prog X.w X.A X.xe X.env (f₀ :: fs) (SP X pins D)) s₁)) (wFin tfs Wout) u s') :
    wpAny (model X.prog X.w) X.A (noteFrame u X.env) (fun _ s₂ => FinallyRaised X.prog X.w X.A X.xe X.env (f₀ :: fs) (SP X pins D) u s₂) (FinallyRaised X.prog X.w X.A X.xe X.env (f₀ :: fs) (SP X pins D)) s' := by
  have hfr : X.A.frames = some (X.env :: X.outer) := by rw [ok.frames, hs]
  obtain ⟨a, B, sI, pins', σ', H', cls, d, rfl, J', nb, up, sky, na, os, ag, hw⟩ := xx
  have J : Inv X pins σ' H' sI := J'.ofTry ok
  have sky' : Sky B (X.env :: X.outer) a (L2N.Zn cls d) X.env.locals s'.heap := by rw [← hs]; exact sky
  -- behind the first note
  have fin : ∀ h1, HandSPX.HeldZ B (X.env :: X.outer) a (L2N.Zn cls d) X.env.locals h1 → s'.heap.UpToSlots h1 → FinallyRaised X.prog X.w X.A X.xe X.env (f₀ :: fs) (SP X pins D) (.ref a) { s' with heap := h1 } := fun h1 hh1 up1 => by
    refine ⟨ref_ne_byPass a, HandSPX.againZ hf hh1.2.2.2 (HandSPX.landsZ hh1 fun h3 fl3 up3 => ?_)⟩
    have J3 : Inv X pins σ' H' { s' with heap := h3 } := J.landed nb fl3.1 ((up.trans up1).trans up3) os ag
    obtain ⟨k1, k2, k3, oe, vs, T, oT, ts, he3, hz, hd, hv1, hnT, hTe, hT, hdT, ht3⟩ := id fl3
    have nT : H' T = none := (J.inGround nb).gone hnT
    have notFr : ∀ (b : Addr) (o : Obj) (fv : Array Value), h3.get? b = some o → o.data = .fields fv → b ∉ frs (X.env :: X.outer) := fun b o fv e dd hm => by
      obtain ⟨_, o', e', hnf⟩ := k3.mem hm
      have eo : o = o' := Option.some.inj (e.symm.trans e')
      rw [← eo] at hnf
      exact hnf _ dd
    have locF : X.env.locals ∈ frs (X.env :: X.outer) := List.mem_filterMap.mpr ⟨X.env, List.mem_cons_self, hf⟩
    have fsF : ∀ b, b ∈ X.fs → b ∈ frs (X.env :: X.outer) := fun b hm => by
      obtain ⟨e, he, q⟩ := List.mem_filterMap.mp hm
      exact List.mem_filterMap.mpr ⟨e, List.mem_cons_of_mem _ he, q⟩
    have fa := notFr a oe vs he3 hd
    have fT := notFr T oT ts hT hdT
    have S3 : Inv (X.suite a ((a, oe) :: (T, oT) :: (X.pn ++ pins))) [] σ' H' { s' with heap := h3 } :=
      ⟨J3.ok.suite _ _, J3.os, J3.bare, J3.base, J3.loc, J3.cell, J3.free, J3.freeC, fun p hp => by
        rw [List.append_nil] at hp
        rcases List.mem_cons.mp hp with z | hp
        · rw [z]
          exact ⟨he3, na, fun z2 => fa (by rw [show a = X.env.locals from z2]; exact locF), fun z2 => fa (fsF _ z2), fun v z2 => by
            have z3 : oe.data = .cell v := z2
            rw [hd] at z3
            cases z3⟩
        · rcases List.mem_cons.mp hp with z | hp
          · rw [z]
            exact ⟨hT, nT, fun z2 => fT (by rw [show T = X.env.locals from z2]; exact locF), fun z2 => fT (fsF _ z2), fun v z2 => by
              have z3 : oT.data = .cell v := z2
              rw [hdT] at z3
              cases z3⟩
          · exact J3.pin p hp, J3.hok, J3.len⟩
    refine wpAny_mono ((hsu a ((a, oe) :: (T, oT) :: (X.pn ++ pins)) ⟨(a, oe), ⟨rfl, vs, hd, hz.2.2 vs hd⟩, List.mem_cons_self⟩).run [] { s' with heap := h3 } σ' H' { nx := fun σ2 H2 => Wout cls d σ2 H2, rt := fun _ _ => False } S3 hw) (fun g s6 hsp => ?_) fun _ _ z => False.elim z
    cases g with
    | ret u =>
      obtain ⟨_, _, _, _, _, q⟩ := hsp
      exact False.elim q
    | brk =>
      obtain ⟨_, _, _, q⟩ := hsp
      exact False.elim q
    | cont =>
      obtain ⟨_, _, _, q⟩ := hsp
      exact False.elim q
    | next =>
      obtain ⟨σ6, H6, S6, q6⟩ := hsp
      have J6 : Inv X pins σ6 H6 s6 := ⟨ok, S6.os, S6.bare, S6.base, S6.loc, S6.cell, S6.free, S6.freeC, fun p hp => S6.pin p (List.mem_append_left _ (List.mem_cons_of_mem _ (List.mem_cons_of_mem _ hp))), S6.hok, S6.len⟩
      have pa := S6.pin (a, oe) (List.mem_append_left _ List.mem_cons_self)
      have pT := S6.pin (T, oT) (List.mem_append_left _ (List.mem_cons_of_mem _ List.mem_cons_self))
      have ga : s6.heap.get? a = some oe := pa.1
      have gT : s6.heap.get? T = some oT := pT.1
      have na6 : H6 a = none := pa.2.1
      have nT6 : H6 T = none := pT.2.1
      -- what is not the exception's
      have far : ∀ b o, sI.heap.get? b = some o → b ≠ a ∧ b ≠ T := fun b o e => by
        by_cases hb : b ∈ frs X.stack
        · rw [hs] at hb
          exact ⟨fun z => fa (by rw [← z]; exact hb), fun z => fT (by rw [← z]; exact hb)⟩
        · have q := nb b o e hb
          exact ⟨fun z => by
            rw [z, k2] at q
            exact (nomatch q), fun z => by
            rw [z, hnT] at q
            cases q⟩
      have far0 : ∀ b o, X.s_0.heap.get? b = some o → b ≠ a ∧ b ≠ T := fun b o e => by
        obtain ⟨o', q⟩ := J.base.there b o e (by rw [hex]; simp)
        exact far b o' q
      have farP : ∀ p ∈ X.pn ++ pins, p.1 ≠ a ∧ p.1 ≠ T := fun p hp => far p.1 p.2 (J.pin p hp).1
      obtain ⟨G, g1, g2⟩ := restrict s6.heap fun b => !(decide (b = a) || decide (b = T))
      have gIn : ∀ b o, G.get? b = some o → s6.heap.get? b = some o ∧ b ≠ a ∧ b ≠ T := fun b o e => by
        cases q : (!(decide (b = a) || decide (b = T))) with
        | false =>
          rw [g2 b q] at e
          cases e
        | true =>
          rw [g1 b q] at e
          simp only [Bool.not_eq_true', Bool.or_eq_false_iff, decide_eq_false_iff_not] at q
          exact ⟨e, q.1, q.2⟩
      have gOf : ∀ b o, b ≠ a → b ≠ T → s6.heap.get? b = some o → G.get? b = some o := fun b o h1 h2 e => by
        rw [g1 b (by simp [h1, h2])]
        exact e
      have I6 : Inv X pins σ6 H6 { s6 with heap := G } := J6.less (fun b o e => (gIn b o e).1) gOf ⟨oe, vs, ga, hd⟩ ⟨oT, ts, gT, hdT⟩ na6 nT6 far0 farP
      -- the ground behind the suite
      have B6in : ∀ b o, (PySem.W.hideAll G (frs X.stack)).get? b = some o → s6.heap.get? b = some o := fun b o e => (gIn b o (PySem.W.of_hideAll _ e)).1
      have Bno : ∀ b, (b = a ∨ b = T) → (PySem.W.hideAll G (frs X.stack)).get? b = none := fun b hb => by
        cases q : (PySem.W.hideAll G (frs X.stack)).get? b with
        | none => rfl
        | some o =>
          obtain ⟨_, n1, n2⟩ := gIn b o (PySem.W.of_hideAll _ q)
          rcases hb with z | z
          · exact absurd z n1
          · exact absurd z n2
      have fl6 : HandSPX.FlyingZ (PySem.W.hideAll G (frs X.stack)) (X.env :: X.outer) a (Zc cls d) s6.heap := by
        refine ⟨B6in, Bno a (.inl rfl), ?_, oe, vs, T, oT, ts, ga, hz.zc, hd, hv1, Bno T (.inr rfl), hTe, gT, hdT, ht3⟩
        have ff := funFrames_none (B := PySem.W.hideAll G (frs X.stack)) J6.stack fun b hb => PySem.W.hideAll_none _ hb
        rw [← hs]
        exact ff
      show wpAny (model X.prog X.w) X.A (PySem.passOn "try.finally" (.ref a) X.env) (SP X pins D) X.xe s6
      unfold PySem.passOn
      refine wpAny_bind (wpAny_field ga hd hv1 ?_)
      rw [if_neg (show ¬ ((Value.ref T == Value.none) = true) from by simp)]
      have goOn : wpAny (model X.prog X.w) X.A (setFlight (.ref a) X.env.frame) (fun _ s7 => wpAny (model X.prog X.w) X.A (throw (.ref a) : Sem Flow) (SP X pins D) X.xe s7) X.xe s6 := by
        rw [hf]
        refine HandSPX.setFlight_upZ fl6 fun h7 hh7 up7 => wpAny_throw (tk _ _ ?_)
        refine ⟨a, PySem.W.hideAll G (frs X.stack), { s6 with heap := G }, pins, σ6, H6, cls, d, rfl, I6, fun b o e hb => PySem.W.hideAll_get _ e hb, ?_, .inr (.inr (by rw [← hs] at hh7; exact hh7)), na6, rfl, J6.bare, q6⟩
        exact Heap.UpToSlots.trans (Heap.UpToSlots.of_keeps fun b o e => (gIn b o e).1) up7
      first
        | exact wpAny_bind (wpAny_pure (wpAny_bind goOn))
        | exact wpAny_bind goOn
  show wpAny (model X.prog X.w) X.A (noteFrame (.ref a) X.env) _ _ _
  rcases sky' with ⟨hB, hn, hl, oe, vs, he0, hz, hd, hv1⟩ | fl | hh
  · exact PXN.look_newZ L2N.Zn.steady hfr hl hf he0 hB hn hd hv1 hz fin
  · exact PXN.looks_onZ L2N.Zn.steady hfr hf fl fin
  · exact HandSPX.againZ hf hh.2.2.2 (fin s'.heap hh (Heap.UpToSlots.refl _))

/-- try: body finally: suite; tb W: the body's reading, W what is wished of its errors; tf: the suite behind a body that ran through; tfs: the suite with the error in flight -/
def tFin (tb : WX → TS) (tf tfs : TS) (Wout : WX) : TS := fun D σ H => tb (wFin tfs Wout) { nx := fun σ1 H1 => tf D σ1 H1, rt := fun _ _ => False } σ H
theorem ps_finN (hs : X.stack = X.env :: X.outer) (hf : X.env.frame = some X.env.locals) (hex : X.ex = []) (tk : L2.Takes X Wout)
    (hb : ∀ (W : WX) (pn : List (Addr × Obj)) (xe : Value → Shared → Prop), L2N.Takes (X.tr pn xe) W → PassesOwn (model X.prog X.w) X.A X.env xe → PSs (X.tr pn xe) body (tb W))
    (hfin : PSs X.nox (f₀ :: fs) tf) (hsu : ∀ (a : Addr) (pn : List (Addr × Obj)), L2H.HotC (X.suite a pn) → PSs (X.suite a pn) (f₀ :: fs) tfs) : PS X (.Try body [] [] (f₀ :: fs) pos) (tFin tb tf tfs Wout) := by
  refine ⟨fun pins s σ H D I h => ?_⟩
  have ok := I.ok
  refine wpAny_Try_finally ?_
  refine wpAny_mono ((hb (wFin tfs Wout) (X.pn ++ pins) (fun x s₁ => wpAny (model X.prog X.w) X.A (noteFrame x X.env) (fun _ s₂ => FinallyRaised X.prog X.w X.A X.xe X.env (f₀ :: fs) (SP X pins D) x s₂) (FinallyRaised X.prog X.w X.A X.xe X.env (f₀ :: fs) (SP X pins D)) s₁)
    (fun u s' xx => ?_) PassesOwn.looking).run [] s σ H { nx := fun σ1 H1 => tf D σ1 H1, rt := fun _ _ => False } (I.toTry _) h) (fun g s1 z => ?_) (fun x s1 hx => hx)
  · exact fin_excN hs hf hex ok tk hsu xx
  · cases g with
    | ret u =>
      obtain ⟨_, _, _, _, _, q⟩ := z
      exact False.elim q
    | brk =>
      obtain ⟨_, _, _, q⟩ := z
      exact False.elim q
    | cont =>
      obtain ⟨_, _, _, q⟩ := z
      exact False.elim q
    | next =>
      obtain ⟨σ1, H1, J1, q1⟩ := z
      refine wpAny_execs_nil ?_
      refine wpAny_mono (hfin.run pins s1 σ1 H1 D ((J1.ofTry ok).wish _) q1) (fun g2 s2 q2 => ?_) fun _ _ e => False.elim e
      have q3 : SP X pins D g2 s2 := q2.unwish
      cases g2 <;> exact q3
end
end GK

namespace GK
open PySem PySem.Spec PyProof.Rows L2
/-- o.m(e, ..) within a try: what it raises is wished for at the slots as they stand -/
def tMthS (C : Addr) (m : Str) (sp : Sp) (E : L2.St → XK) (ta : TE) (t : TA) : TE := fun σ H Q => ta σ H fun x H1 => ∃ a dx fs, x = .ref a ∧ H1 a = some (.ins C dx fs) ∧ fs.lookup m = none ∧ t σ H1 fun vs H2 => sp (x :: vs) H2 Q (E σ)
theorem pe_mthS {X : Cx} {CX : CXT} {k : Nat} {f C : Addr} {fd : FuncData} {ps : List Str} {sp : Sp} {E : L2.St → XK} {m : Str} {pos apos : Pos} {e o : Expr} {es : List Expr} {ta : TE} {t : TA} {pl : Sem Bool} (he : PE X o ta) (c : Cls X.K C) (hm : Meth X.K C m f)
    (F : FnOk X.prog X.w X.K X.mg X.base CX k f fd ps sp) (hr : Room k X.A) (hb : Binds X.K fd ps []) (hx : ∀ σ, PassesAt CX X σ (E σ)) (ha : PA X (e :: es) t)
    (hst : starEach (e :: es) X.env = (false, eval e X.env) :: starEach es X.env := by rfl) (hpl : (backTo pos (starEach es X.env)).any (·.1) = false := by rfl)
    (ht : eval (.Call (.Attribute o m apos) (e :: es) [] pos) X.env = (do
      let ov ← eval o X.env
      standAt apos.atName
      let (f, first) ← holding [ov] (getMethod ov m pl)
      callWith pos f first (backTo pos (starEach (e :: es) X.env)) (backToKw pos (keywordEach [] X.env))) := by rfl) :
    PE X (.Call (.Attribute o m apos) (e :: es) [] pos) (tMthS C m sp E ta t) := by
  refine ⟨fun pins s σ H Q I h => ?_⟩
  refine PySem.W.methodCall_KW (pl := pl) (thn (he.run pins s σ H _ I h) fun u s1 ⟨x, H1, I1, rx, a, dx, fs, ex, ea, l, q⟩ => ?_) ht
  subst ex
  obtain rfl : u = Value.ref a := rx
  refine getmeth_ok I1 ea c hm l ?_
  refine PySem.W.callWith_K (first := [.ref a]) (h₀ := X.base) I.ok.mod.kin hm.kp (thn (ha.run pos pins s1 σ H1 _ I1 q) fun us s2 ⟨vs, H2, I2, r, q2⟩ => ⟨I2.kIn, ?_⟩) hst hpl
  exact run_fnS (us := .ref a :: us) (vs := .ref a :: vs) F hr hb (hx σ) I2 (.cons rfl r) q2
end GK
namespace Cp
open PySem PySem.Spec PyProof.Rows L2 Evl GN GZ
def Nst : List Str := ["self", "deeds", "before", "held", "programs", "wishes", "number", "news", "deed", "holds", "at"]
theorem sc_st : FnScope Nst ["self", "deeds"] (defScope (mS 18)) := ⟨rfl, rfl, rfl, by decide +kernel, rfl, by decide +kernel, by decide +kernel⟩
def spSt (K : PySem.W.Frag) (C CF : Addr) : Sp := fun vs H Q E => ∃ x dx a b n r p l d t z rest dl, ∃ (ks : List (L2.Key × V)) (ps : List V), vs = [.ref x, .ref dl] ∧ H x = some (.ins C dx (shF a b n r p l d)) ∧ H a = some (.dK ks) ∧ H b = some (.dK []) ∧ a ≠ b ∧ ks.length ≤ 90 ∧ H p = some (.lst ps) ∧ ps.length ≤ 1000 ∧
  H dl = some (.lst [.ref t]) ∧ dl ≠ p ∧ H t = some (.tup (.str z :: rest)) ∧ DeedOk z rest ∧ deedAt ks z rest ∧
  (noRoom ks r z rest → ∀ a2 b2 dd H', H' dd = some (.xd (fFu (.int r))) → H a2 = none → H b2 = none → a2 ≠ b2 → H' x = some (.ins C dx (shF a2 b2 n r p l 0)) → H' a2 = some (.dK ks) → H' b2 = some (.dK []) → (∀ y o, y ≠ x → H y = some o → H' y = some o) → E (.ref CF) (some dd) H') ∧
  (¬ noRoom ks r z rest → ∀ ks' b2 l2 a3 b3 s d2 q H2, deedTo ks ks' rest → H2 x = some (.ins C dx (shF a b2 n r p l2 d2)) → H2 a = some (.dK ks') → H2 b2 = some (.dK []) → a ≠ b2 → (b2 = b ∨ H b2 = none) → H l2 = none → H2 l2 = some (.lst []) → H2 p = some (.lst (ps ++ [.ref s])) →
    H2 s = some (.tup [.ref a3, .ref b3, .int n]) → H a3 = none → H b3 = none → H2 a3 = some (.dK ks) → H2 b3 = some (.dK []) → H q = none → H2 q = some (.lst []) → (∀ y o, y ≠ x → y ≠ a → y ≠ p → H y = some o → H2 y = some o) → Q (.ref q) H2)
theorem perm_nil {ys : List Str} (h : ys.Perm []) : ys = [] := List.Perm.eq_nil h
section
variable {K : PySem.W.Frag} {σ : L2.St} {H : Hp} {te : TE}
/-- sorted(list(d)), d empty -/
theorem el_sorted0 {d : Addr} (h : Ev te σ H (.ref d)) (hd : H d = some (.dK [])) : EvL (tCB (rSortedS K) (tCons (tCB (fun xs H Q => ∃ (a : Addr) (kvs : List (L2.Key × V)), xs = [.ref a] ∧ Rd H a (.dK kvs) ∧ ∀ p, H p = none → Q (.ref p) (upd H p (.lst (kvs.map fun kv => kV kv.1)))) (tCons te tNil)) tNil)) σ H [] := fun H1 e Q q =>
  h H1 e _ fun H2 e2 => ⟨d, [], rfl, .inl ((e.trans e2) _ _ hd), fun p hp => ⟨p, [], rfl, sq_of upd_same, by decide, fun ys t hper _ ht => by
    rw [perm_nil hper]
    exact q t _ (fresh_back (e2.trans (Ex.new hp)) ht) ((e2.trans (Ex.new hp)).trans (Ex.new ht)) upd_same⟩⟩
theorem et_isN {v : V} {b : Bool} (h : Ev te σ H v) (hb : decide (v = .non) = b) : EvT (tTest (tOp (fun x y H Q => y = .non ∧ Q (.bl (decide (x = .non))) H) te (tC .non))) σ H b := et_test (ev_is (ev_op h ev_c fun H1 _ Q q => ⟨rfl, q H1 (Ex.refl _)⟩) (by rw [hb]))
end
section
variable {P : Program} {w : World} {K : PySem.W.Frag} {mg : Str → Option Value} {base : Heap} {f : Addr} {fd : FuncData} {C CF CN : Addr}
theorem ok_st (F : MeP K "step" "Shelf.step" (mS 18) f fd) (sc : SC K C) (KS : Mcal P w K mg base C "kept_state" CX0 1 ["self"] (spKs C)) (VK : Mcal P w K mg base C "values_kept" CX0 1 ["self"] (spVk C))
    (AC : Mcal P w K mg base C "act" (L2N.CX P w) 11 ["self", "deed"] (spAc K C CF)) (gS : mg "sorted" = none) (gL : mg "list" = none) : FnOk P w K mg base (CX P w) 12 f fd ["self", "deeds"] (spSt K C CF) := by
  refine F.ok sc_st (fun vs H Q E h => ?_) (fun cdv A outer s H vs Q E hr h => ?_)
  · obtain ⟨x, dx, a, b, n, r, p, l, d, t, z, rest, dl, ks, ps, rfl, _⟩ := h
    rfl
  · have hrm := fun j (h : j ≤ 11) => hr.mono (j := j) h
    obtain ⟨x, dx, a, b, n, r, p, l, d, t, z, rest, dl, ks, ps, rfl, hx, ha, hb, hab, hn, hp, hpn, hdl, hdp, ht, hd, hat, kE, kN⟩ := h
    refine ⟨_, pss_cons (by
        exact ps_asg (pe_tup (pa_cons (by
          exact pe_meth0 (pv 0) sc.cls KS.m KS.G (hrm 1 (by decide)) KS.b .nil pass0) (pa_cons (by
          exact pe_meth0 (pv 0) sc.cls VK.m VK.G (hrm 1 (by decide)) VK.b .nil pass0) pa_nil))) (pg_tup rfl (pgs_cons (pg_name (i := 2) sc_st.nd rfl (Or.inl rfl)) (pgs_cons (pg_name (i := 3) sc_st.nd rfl (Or.inr rfl)) pgs_nil)))) <| pss_cons (by
        exact ps_asg (pv 2) (pg_tup rfl (pgs_cons (pg_name (i := 4) sc_st.nd rfl (Or.inl rfl)) (pgs_cons (pg_name (i := 5) sc_st.nd rfl (Or.inl rfl)) (pgs_cons (pg_name (i := 6) sc_st.nd rfl (Or.inl rfl)) pgs_nil))))) <| pss_cons (by
        exact ps_asg (pe_tup (pa_cons pe_int (pa_cons pe_non pa_nil))) (pg_tup rfl (pgs_cons (pg_fld (pv 0)) (pgs_cons (pg_name (i := 7) sc_st.nd rfl (Or.inl rfl)) pgs_nil)))) <| pss_cons (by
        refine GK.ps_finN (tb := fun W => tSeq (tFor (iList K (tVar 1)) (gName 8) (tSeq (tDrop (GK.tMthS C "act" (spAc K C CF) (WE W) (tVar 0) (tCons (tVar 8) tNil))) (sFldAug K (tVar 0) (tC (.int 1)) L2.rAdd "done"))) (tSeq (tAsg (tMeth C "values_kept" (spVk C) [] E0 (tVar 0) tNil) (gName 9)) (tAsg (tLc (iList K (tCB (rSortedS K) (tCons (tCB (fun xs H Q => ∃ (a : Addr) (kvs : List (L2.Key × V)), xs = [.ref a] ∧ Rd H a (.dK kvs) ∧ ∀ p, H p = none → Q (.ref p) (upd H p (.lst (kvs.map fun kv => kV kv.1)))) (tCons (tVar 9) tNil)) tNil))) (gName 10) (fun _ _ _ => False) (fun _ _ _ => False) [10]) (gName 7)))) (tfs := tIfS (tTest (tOp (fun x y H Q => y = .non ∧ Q (.bl (decide (x = .non))) H) (tVar 7) (tC .non))) (tAsg (tTup (tCons (tVar 4) (tCons (tVar 5) (tCons (tVar 6) tNil)))) (gTup K 3 (gCons (gFld K (tVar 0) "programs") (gCons (gFld K (tVar 0) "wishes") (gCons (gFld K (tVar 0) "number") gNil))))) tNext) rfl rfl rfl (takes_of rfl rfl rfl rfl) (fun W pn xe tk po => ?_) (pss_one (by
          exact ps_if (pt_cmpR op_isN (pv 7) pe_non (nomark _)) pss_no pss_nil)) (fun a' pn' hot => pss_one (by
          exact ps_if (pt_cmpR op_isN (pv 7) pe_non (nomark _)) (pss_one (by
            exact ps_asg (pe_tup (pa_cons (pv 4) (pa_cons (pv 5) (pa_cons (pv 6) pa_nil)))) (GK.pg_tupH hot (pgs_cons (pg_fld (pv 0)) (pgs_cons (pg_fld (pv 0)) (pgs_cons (pg_fld (pv 0)) pgs_nil)))))) pss_nil))
        refine pss_cons (by
            refine ps_for po rfl (pi_list (pv 1)) (pg_name (i := 8) sc_st.nd rfl (Or.inl rfl)) (pss_cons (by
              exact ps_expr (GK.pe_mthS (pv 0) sc.cls AC.m AC.G (hrm 11 (by decide)) AC.b (fun σ => L2N.passAt tk σ) (pa_cons (pv 8) pa_nil))) <| pss_one (by
              exact ps_fldaug (pv 0) pe_int in_add))) <| pss_cons (by
            exact ps_asg (pe_meth0 (pv 0) sc.cls VK.m VK.G (hrm 1 (by decide)) VK.b .nil pass0) (pg_name (i := 9) sc_st.nd rfl (Or.inr rfl))) <| pss_one (by
            exact ps_setLc (i := 7) (own := [("at", 10)]) (g := gName 10) (tt := fun _ _ _ => False) (te := fun _ _ _ => False) rfl sc_st.nd rfl rfl rfl (pi_list (by exact pe_callB cr_sortedS (by rfl) gS boot_sorted (pa_cons (pe_callTy (call_listD rfl) (by rfl) gL boot_list (pa_cons (pv 9) pa_nil)) pa_nil))) (blkOk_by (by kernel_rfl)) (fun _ _ _ _ _ => pg_name (i := 10) sc_st.nd rfl (Or.inl rfl)) (fun _ _ _ _ _ => pts_one pt_no) (fun _ _ _ _ _ => pe_no))) <| pss_cons (by
        exact ps_expr (pe_bm PySem.F.plainAttrs_list PySem.F.slot_list_append PySem.F.type_list_append mt_append (pe_fld (pv 0) rfl) (pa_cons (pv 2) pa_nil))) <| pss_cons (by
        exact ps_asg (pe_lst pa_nil) (pg_fld (pv 0))) <| pss_one (by
        exact ps_ret (pv 7)), ?_⟩
    have hdx : dl ≠ x := fun z => by rw [z, hx] at hdl; cases hdl
    refine q_asgW ?_
    refine ⟨.ref x, rfl, x, dx, _, rfl, hx, rfl, x, dx, a, b, n, r, p, l, d, ks, [], rfl, hx, ha, hb, fun a3 b3 s3 H1 na3 nb3 ns3 e1 h3a h3b h3s hab3 => ?_⟩
    refine ⟨.ref x, rfl, x, dx, _, rfl, e1 _ _ hx, rfl, x, dx, a, b, n, r, p, l, d, rfl, e1 _ _ hx, e1 _ _ hb, fun hd2 H2 nhd e2 h2 => ?_⟩
    refine ⟨sz_of (n := 2) (by decide), fun T hT => ?_⟩
    have e02 := e1.trans e2
    refine ⟨T, _, rfl, st_of upd_same, rfl, .ref s3, _, rfl, .ref hd2, _, rfl, rfl, ?_⟩
    have e03 : Ex H (upd H2 T (.tup [.ref s3, .ref hd2])) := e02.trans (Ex.new hT)
    have e13 : Ex H1 (upd H2 T (.tup [.ref s3, .ref hd2])) := e2.trans (Ex.new hT)
    have h3a := e13 _ _ h3a
    have h3b := e13 _ _ h3b
    have h3s := e13 _ _ h3s
    have h2 := (Ex.new (o := .tup [.ref s3, .ref hd2]) hT) _ _ h2
    generalize upd H2 T (.tup [.ref s3, .ref hd2]) = H3 at e03 e13 h3a h3b h3s h2 ⊢
    refine q_asgW ?_
    refine ⟨.ref s3, rfl, s3, _, rfl, st_of h3s, rfl, .ref a3, _, rfl, .ref b3, _, rfl, .int n, _, rfl, rfl, ?_⟩
    refine q_asgW ?_
    refine ⟨sz_of (n := 2) (by decide), fun T2 hT2 => ?_⟩
    have x4 := (Ex.new (o := .tup [.int 0, .non]) hT2) _ _ (e03 _ _ hx)
    refine ⟨T2, _, rfl, st_of upd_same, rfl, .int 0, _, rfl, .ref x, rfl, x, C, dx, _, rfl, x4, sc.cls, sc.done, (show (7 : Nat) < 1000 by decide), .non, _, rfl, rfl, ?_⟩
    have k4 : ∀ y o, y ≠ x → H3 y = some o → (upd (upd H3 T2 (.tup [.int 0, .non])) x (.ins C dx (putF "done" (.int 0) (shF a b n r p l d)))) y = some o := fun y o hy h => by
      rw [upd_ne hy]
      exact (Ex.new (o := .tup [.int 0, .non]) hT2) _ _ h
    have hx4 : (upd (upd H3 T2 (.tup [.int 0, .non])) x (.ins C dx (putF "done" (.int 0) (shF a b n r p l d)))) x = some (.ins C dx (shF a b n r p l 0)) := by
      rw [upd_same, show putF "done" (.int 0) (shF a b n r p l d) = shF a b n r p l 0 by kernel_rfl]
    have hx3 := e03 _ _ hx
    have nex : ∀ {y o}, H3 y = some o → (∀ fs, o ≠ .ins C dx fs) → y ≠ x := fun h ho z => by
      rw [z, hx3] at h
      exact ho _ (Option.some.inj h).symm
    have h3a := k4 _ _ (nex h3a (fun _ z => by cases z)) h3a
    have h3b := k4 _ _ (nex h3b (fun _ z => by cases z)) h3b
    have h3s := k4 _ _ (nex h3s (fun _ z => by cases z)) h3s
    have h2 := k4 _ _ (nex h2 (fun _ z => by cases z)) h2
    have k04 : ∀ y o, y ≠ x → H y = some o → _ = some o := fun y o hy h => k4 y o hy (e03 _ _ h)
    have hax : a ≠ x := fun z => by rw [z, hx] at ha; cases ha
    have hbx : b ≠ x := fun z => by rw [z, hx] at hb; cases hb
    have hpx : p ≠ x := fun z => by rw [z, hx] at hp; cases hp
    have htx : t ≠ x := fun z => by rw [z, hx] at ht; cases ht
    have hpa : p ≠ a := fun z => by rw [z, ha] at hp; cases hp
    have hda : dl ≠ a := fun z => by rw [z, ha] at hdl; cases hdl
    have ne3 : ∀ {y}, H y = none → y ≠ a := fun hy z => by rw [z, ha] at hy; cases hy
    have ne3x : ∀ {y}, H y = none → y ≠ x := fun hy z => by rw [z, hx] at hy; cases hy
    generalize upd (upd H3 T2 (.tup [.int 0, .non])) x (.ins C dx (putF "done" (.int 0) (shF a b n r p l d))) = H4 at k4 hx4 h3a h3b h3s h2 k04 ⊢
    have back4 : ∀ {y}, H4 y = none → H y = none := fun {y} hy => by
      cases h : H y with
      | none => rfl
      | some o =>
        by_cases z : y = x
        · rw [z, hx4] at hy
          cases hy
        · have := k04 _ _ z h
          rw [hy] at this
          cases this
    show tSeq (tFor (iList K (tVar 1)) (gName 8) (tSeq (tDrop (GK.tMthS C "act" (spAc K C CF) (WE (wFin _ _)) (tVar 0) (tCons (tVar 8) tNil))) (sFldAug K (tVar 0) (tC (.int 1)) L2.rAdd "done"))) (tSeq (tAsg (tMeth C "values_kept" (spVk C) [] E0 (tVar 0) tNil) (gName 9)) _) _ _ H4
    refine q_forLn (a := dl) (xs := [.ref t]) (ev_var rfl) (sq_of (k04 _ _ hdx hdl)) (fun i σ' H' => (i = 0 ∧ σ' = [some (V.ref x), some (.ref dl), some (.ref s3), some (.ref hd2), some (.ref a3), some (.ref b3), some (.int n), some .non, none, none, none] ∧ Ex H4 H') ∨ (i = 1 ∧ σ' = [some (V.ref x), some (.ref dl), some (.ref s3), some (.ref hd2), some (.ref a3), some (.ref b3), some (.int n), some .non, some (.ref t), none, none] ∧
      ∃ ks' b2, ¬ noRoom ks r z rest ∧ deedTo ks ks' rest ∧ H' x = some (.ins C dx (shF a b2 n r p l 1)) ∧ H' a = some (.dK ks') ∧ H' b2 = some (.dK []) ∧ (b2 = b ∨ H4 b2 = none) ∧ ∀ y o, y ≠ x → y ≠ a → H4 y = some o → H' y = some o)) (fun H5 e5 => .inl ⟨rfl, rfl, e5⟩) (fun i σ' H' _ z => ?_) (fun i y σ' H' hy z => ?_) fun σ' H' z => ?_
    · rcases z with ⟨_, _, e⟩ | ⟨_, _, _, _, _, _, _, _, _, _, k⟩
      · exact sq_of (e _ _ (k04 _ _ hdx hdl))
      · exact sq_of (k _ _ hdx hda (k04 _ _ hdx hdl))
    · have hi : i = 0 := by
        have := (List.getElem?_eq_some_iff.mp hy).1
        simp at this
        exact this
      subst hi
      obtain rfl : V.ref t = y := Option.some.inj hy
      rcases z with ⟨_, rfl, e5⟩ | ⟨z, _⟩
      · refine ⟨.ref x, rfl, x, dx, _, rfl, e5 _ _ hx4, rfl, .ref t, rfl, x, dx, a, b, n, r, p, l, 0, t, z, rest, ks, rfl, e5 _ _ hx4, e5 _ _ (k04 _ _ hax ha), e5 _ _ (k04 _ _ hbx hb), hab, by omega, e5 _ _ (k04 _ _ htx ht), hd, hat, fun hnr dd H6 hdd e6 => ?_, fun hnr ks' b2 H6 hto hx6 ha6 hb6 hbb k6 => ?_⟩
        · have e46 := e5.trans e6
          refine s_if (b := true) (et_isN (ev_var rfl) rfl) (fun _ H7 e7 => ?_) (fun z => (nomatch z))
          have e47 := e46.trans e7
          refine ⟨.ref a3, rfl, .ref b3, rfl, .int n, rfl, sz_of (n := 3) (by decide), fun T3 hT3 => ?_⟩
          have e8 := Ex.new (o := .tup [.ref a3, .ref b3, .int n]) hT3
          refine ⟨T3, _, rfl, st_of upd_same, rfl, .ref a3, _, rfl, .ref x, rfl, x, C, dx, _, rfl, e8 _ _ (e47 _ _ hx4), sc.cls, sc.programs, (show (7 : Nat) < 1000 by decide), .ref b3, _, rfl, .ref x, rfl, x, C, dx, _, rfl, upd_same, sc.cls, sc.wishes, (show (7 : Nat) < 1000 by decide), .int n, _, rfl, .ref x, rfl, x, C, dx, _, rfl, upd_same, sc.cls, sc.number, (show (7 : Nat) < 1000 by decide), rfl, ?_⟩
          have e48 := e47.trans e8
          have hdx2 : dd ≠ x := fun z => by rw [z, e46 _ _ hx4] at hdd; cases hdd
          have k9 : ∀ y o, y ≠ x → (upd H7 T3 (.tup [.ref a3, .ref b3, .int n])) y = some o → (upd (upd (upd (upd H7 T3 (.tup [.ref a3, .ref b3, .int n])) x (.ins C dx (putF "programs" (.ref a3) (shF a b n r p l 0)))) x (.ins C dx (putF "wishes" (.ref b3) (putF "programs" (.ref a3) (shF a b n r p l 0))))) x (.ins C dx (putF "number" (.int n) (putF "wishes" (.ref b3) (putF "programs" (.ref a3) (shF a b n r p l 0)))))) y = some o := fun y o hy h => by
            rw [upd_ne hy, upd_ne hy, upd_ne hy]
            exact h
          refine kE hnr a3 b3 dd _ (k9 _ _ hdx2 (e8 _ _ (e7 _ _ hdd))) na3 nb3 hab3 (by rw [upd_same, show putF "number" (.int n) (putF "wishes" (.ref b3) (putF "programs" (.ref a3) (shF a b n r p l 0))) = shF a3 b3 n r p l 0 by kernel_rfl]) (k9 _ _ (ne3x na3) (e48 _ _ h3a)) (k9 _ _ (ne3x nb3) (e48 _ _ h3b)) fun y o hy h => k9 _ _ hy (e48 _ _ (k04 _ _ hy h))
        · refine ⟨.ref x, rfl, x, C, dx, _, .int 0, rfl, hx6, sc.cls, sc.done, rfl, 0, 1, rfl, rfl, dx, _, hx6, (show (7 : Nat) < 1000 by decide),     .inr ⟨rfl, rfl, ks', b2, hnr, hto, by rw [upd_same, show putF "done" (.int (0 + 1)) (shF a b2 n r p l 0) = shF a b2 n r p l 1 by kernel_rfl], by rw [upd_ne hax]; exact ha6, ?_, hbb.elim .inl (fun z => .inr (fresh_back e5 z)), fun y o h1 h2 h => by
            rw [upd_ne h1]
            exact k6 _ _ h1 h2 (e5 _ _ h)⟩⟩
          have : b2 ≠ x := fun z => by rw [z, hx6] at hb6; cases hb6
          rw [upd_ne this]
          exact hb6
      · cases z
    · rcases z with ⟨z, _⟩ | ⟨_, rfl, ks', b2, hnr, hto, hx5, ha5, hb5, hbb, k5⟩
      · cases z
      have hab2 : a ≠ b2 := fun z => by
        rcases hbb with h | h
        · exact hab (z.trans h)
        · rw [← z, k04 _ _ hax ha] at h
          cases h
      refine q_asgW ?_
      refine ⟨.ref x, rfl, x, dx, _, rfl, hx5, rfl, x, dx, a, b2, n, r, p, l, 1, rfl, hx5, hb5, fun hd3 H7 nhd3 e7 h7 => ?_⟩
      refine s_asgL (xs := []) (el_lc0 (el_sorted0 (ev_var rfl) h7)) fun q H8 nq e8 h8 => ?_
      dsimp only
      refine s_if (b := false) (et_isN (v := .ref q) (ev_var rfl) (decide_eq_false (fun z => by cases z))) (fun z => (nomatch z)) (fun _ H9 e9 => ?_)
      have e59 := (e7.trans e8).trans e9
      have hp9 := e59 _ _ (k5 _ _ hpx hpa (k04 _ _ hpx hp))
      refine q_app (l := p) (xs := ps) (v := .ref s3) hp9 (ev_fld (ev_var rfl) (e59 _ _ hx5) sc.cls sc.past rfl) (ev_var rfl) (by omega) fun H10 e10 => ?_
      have e510 := e59.trans e10
      have k11 : ∀ y o, y ≠ p → H' y = some o → (upd H10 p (.lst (ps ++ [.ref s3]))) y = some o := fun y o hy h => by
        rw [upd_ne hy]
        exact e510 _ _ h
      have hp11 : (upd H10 p (.lst (ps ++ [.ref s3]))) p = some (.lst (ps ++ [.ref s3])) := upd_same
      have hq11 : (upd H10 p (.lst (ps ++ [.ref s3]))) q = some (.lst []) := by
        have : q ≠ p := fun z => by rw [z, e7 _ _ (k5 _ _ hpx hpa (k04 _ _ hpx hp))] at nq; cases nq
        rw [upd_ne this]
        exact e10 _ _ (e9 _ _ h8)
      generalize upd H10 p (.lst (ps ++ [.ref s3])) = H11 at k11 hp11 hq11 ⊢
      refine q_asgW ?_
      have hx11 := k11 _ _ (Ne.symm hpx) hx5
      refine ⟨sz_of (n := 0) (by decide), fun l2 hl2 => ⟨.ref x, rfl, x, C, dx, _, rfl, Ex.new hl2 _ _ hx11, sc.cls, sc.later, (show (7 : Nat) < 1000 by decide), ?_⟩⟩
      have k12 : ∀ y o, y ≠ x → H11 y = some o → (upd (upd H11 l2 (.lst [])) x (.ins C dx (putF "later" (.ref l2) (shF a b2 n r p l 1)))) y = some o := fun y o hy h => by
        rw [upd_ne hy]
        exact Ex.new hl2 _ _ h
      have back5 : ∀ {y}, H' y = none → H y = none := fun {y} hy => by
        refine back4 ?_
        cases h : H4 y with
        | none => rfl
        | some o =>
          by_cases z : y = x
          · rw [z, hx5] at hy
            cases hy
          · by_cases z2 : y = a
            · rw [z2, ha5] at hy
              cases hy
            · have := k5 _ _ z z2 h
              rw [hy] at this
              cases this
      have back11 : ∀ {y}, H11 y = none → H' y = none := fun {y} hy => by
        cases h : H' y with
        | none => rfl
        | some o =>
          by_cases z : y = p
          · rw [z, hp11] at hy
            cases hy
          · have := k11 _ _ z h
            rw [hy] at this
            cases this
      have nl2x : l2 ≠ x := fun z => by rw [z, hx11] at hl2; cases hl2
      have hap : a ≠ p := Ne.symm hpa
      have hb2p : b2 ≠ p := fun z => by
        rw [z] at hb5
        rw [k5 _ _ hpx hpa (k04 _ _ hpx hp)] at hb5
        cases hb5
      have hb2x : b2 ≠ x := fun z => by rw [z, hx5] at hb5; cases hb5
      have to12 : ∀ {y o}, y ≠ x → y ≠ a → y ≠ p → H4 y = some o → _ := fun {y o} h1 h2 h3 h => k12 y o h1 (k11 y o h3 (k5 y o h1 h2 h))
      have nep : ∀ {y}, H y = none → y ≠ p := fun hy z => by rw [z, hp] at hy; cases hy
      have s3x : s3 ≠ x := ne3x (fresh_back (Ex.refl _) ns3)
      refine ⟨.ref q, rfl, kN hnr ks' b2 l2 a3 b3 s3 1 q _ hto (by rw [upd_same, show putF "later" (.ref l2) (shF a b2 n r p l 1) = shF a b2 n r p l2 1 by kernel_rfl]) (k12 _ _ hax (k11 _ _ hap ha5)) (k12 _ _ hb2x (k11 _ _ hb2p hb5)) hab2 (hbb.elim .inl fun z => .inr (back4 z)) (back5 (back11 hl2)) (by rw [upd_ne nl2x]; exact upd_same) (k12 _ _ hpx hp11) (to12 s3x (ne3 ns3) (nep ns3) h3s) na3 nb3 (to12 (ne3x na3) (ne3 na3) (nep na3) h3a) (to12 (ne3x nb3) (ne3 nb3) (nep nb3) h3b) ?_ ?_ fun y o h1 h2 h3 h => to12 h1 h2 h3 (k04 _ _ h1 h)⟩
      · exact back5 (fresh_back e7 nq)
      · have : q ≠ x := fun z => by rw [z, e7 _ _ hx5] at nq; cases nq
        exact k12 _ _ this hq11
end
end Cp

namespace Cp
open PySem PySem.Spec PyProof.Rows L2 Evl GN GZ
/-! ### names -/
def Nms (m : List Str) (ks : List (L2.Key × V)) : Prop := ks.map (·.1) = m.map Sum.inr
def putN (m : List Str) (w : Str) : List Str := if w ∈ m then m else m ++ [w]
def dropN (m : List Str) (w : Str) : List Str := m.filter fun y => decide (y ≠ w)
theorem nms_len {m : List Str} {ks : List (L2.Key × V)} (h : Nms m ks) : ks.length = m.length := by
  have := congrArg List.length h
  rw [List.length_map, List.length_map] at this
  exact this
theorem inr_mem {m : List Str} {w : Str} : (Sum.inr w : L2.Key) ∈ m.map Sum.inr ↔ w ∈ m := by
  rw [List.mem_map]
  exact ⟨fun ⟨a, ha, e⟩ => by cases e; exact ha, fun h => ⟨w, h, rfl⟩⟩
theorem nms_val {m : List Str} {ks : List (L2.Key × V)} {w : Str} (h : Nms m ks) : valV ks (.inr w) = none ↔ w ∉ m := by
  constructor
  · intro hv hm
    refine valV_not hv ?_
    rw [h]
    exact inr_mem.mpr hm
  · intro hm
    cases hv : valV ks (.inr w) with
    | none => rfl
    | some v =>
      have := valV_in hv
      rw [h] at this
      exact absurd (inr_mem.mp this) hm
theorem nms_some {m : List Str} {ks : List (L2.Key × V)} {w : Str} (h : Nms m ks) (hw : w ∈ m) : (valV ks (.inr w)).isSome = true := by
  cases hv : valV ks (.inr w) with
  | none => exact absurd hw ((nms_val h).mp hv)
  | some v => rfl
theorem nms_put {m : List Str} {ks : List (L2.Key × V)} {w : Str} {v : V} (h : Nms m ks) : Nms (putN m w) (putK ks (.inr w) v) := by
  unfold putN
  by_cases hw : w ∈ m
  · rw [if_pos hw]
    have hs := nms_some h hw
    unfold putK
    rw [valV_any, if_pos hs]
    show (ks.map fun kv => if kv.1 = Sum.inr w then (kv.1, v) else kv).map (·.1) = _
    rw [List.map_map, ← h]
    refine List.map_congr_left fun kv _ => ?_
    show (if kv.1 = Sum.inr w then (kv.1, v) else kv).1 = kv.1
    by_cases e : kv.1 = Sum.inr w
    · rw [if_pos e]
    · rw [if_neg e]
  · rw [if_neg hw, L2.putK_new v ((nms_val h).mpr hw)]
    show (ks ++ [((Sum.inr w : L2.Key), v)]).map Prod.fst = _
    rw [List.map_append, List.map_append]
    have h' : ks.map Prod.fst = m.map Sum.inr := h
    rw [h']
    rfl
theorem nms_drop {m : List Str} {ks : List (L2.Key × V)} {w : Str} (h : Nms m ks) : Nms (dropN m w) (dropK ks (.inr w)) := by
  have key : ∀ (m : List Str) (ks : List (L2.Key × V)), ks.map (·.1) = m.map Sum.inr → (ks.filter fun kv => decide (kv.1 ≠ Sum.inr w)).map (·.1) = (m.filter fun y => decide (y ≠ w)).map Sum.inr := by
    intro m
    induction m with
    | nil =>
      intro ks h
      have : ks = [] := List.map_eq_nil_iff.mp h
      rw [this]
      rfl
    | cons y m ih =>
      intro ks h
      cases ks with
      | nil => cases h
      | cons kv ks =>
        rw [List.map_cons, List.map_cons] at h
        have h1 : kv.1 = Sum.inr y := (List.cons.inj h).1
        have h2 := ih ks (List.cons.inj h).2
        by_cases e : y = w
        · subst e
          rw [List.filter_cons_of_neg (by rw [h1]; simp), List.filter_cons_of_neg (by simp), h2]
        · have e' : kv.1 ≠ Sum.inr w := fun z => by rw [h1] at z; cases z; exact e rfl
          rw [List.filter_cons_of_pos (by simpa using e'), List.filter_cons_of_pos (by simpa using e), List.map_cons, List.map_cons, h1, h2]
  exact key m ks h
theorem nd_putN {m : List Str} {w : Str} (h : m.Nodup) : (putN m w).Nodup := by
  unfold putN
  by_cases hw : w ∈ m
  · rw [if_pos hw]
    exact h
  · rw [if_neg hw, List.nodup_append]
    refine ⟨h, by simp, fun a ha b hb => ?_⟩
    rw [List.mem_singleton.mp hb]
    exact fun z => hw (z ▸ ha)
theorem nd_dropN {m : List Str} {w : Str} (h : m.Nodup) : (dropN m w).Nodup := h.filter _
theorem len_putN {m : List Str} {w : Str} : (putN m w).length ≤ m.length + 1 := by
  unfold putN
  by_cases hw : w ∈ m
  · rw [if_pos hw]; omega
  · rw [if_neg hw, List.length_append]; simp
theorem len_dropN {m : List Str} {w : Str} : (dropN m w).length ≤ m.length := List.length_filter_le _ _
theorem nms_nd {m : List Str} {ks : List (L2.Key × V)} (h : Nms m ks) (hn : m.Nodup) : (ks.map (·.1)).Nodup := by
  rw [h]
  exact List.pairwise_map.mpr (List.Pairwise.imp (fun h e => h (by cases e; rfl)) hn)
/-! ### the shelf, told by names -/
structure Shf where
  nm : List Str
  room : Int
  past : List (List Str)
  later : List (List Str)
/-- a state that is kept, apart from the dict at a -/
def StA (H : Hp) (a : Addr) (m : List Str) (v : V) : Prop := ∃ t a0 b0 k0, v = .ref t ∧ H t = some (.tup [.ref a0, .ref b0, .int 1]) ∧ H a0 = some (.dK k0) ∧ H b0 = some (.dK []) ∧ a0 ≠ a ∧ b0 ≠ a ∧ Nms m k0 ∧ m.Nodup ∧ m.length ≤ 80
inductive Sts (H : Hp) (a : Addr) : List (List Str) → List V → Prop
  | nil : Sts H a [] []
  | cons {m : List Str} {v : V} {ms : List (List Str)} {vs : List V} (h : StA H a m v) (r : Sts H a ms vs) : Sts H a (m :: ms) (v :: vs)
theorem StA.keep {H H2 : Hp} {a a2 : Addr} {m : List Str} {v : V} (h : StA H a m v) (k : ∀ y o, y ≠ a → H y = some o → (∀ xs, o ≠ .lst xs) → (∀ C dx fs, o ≠ .ins C dx fs) → (∀ ps, o ≠ .tbl ps) → H2 y = some o) (ha : a2 = a ∨ H a2 = none) (hat : ∀ xs, H a ≠ some (.tup xs)) : StA H2 a2 m v := by
  obtain ⟨t, a0, b0, k0, e, h1, h2, h3, n1, n2, h4⟩ := h
  have hta : t ≠ a := fun z => hat _ (z ▸ h1)
  have ne : ∀ {y o}, y ≠ a → H y = some o → y ≠ a2 := fun {y o} n h z => by
    rcases ha with q | q
    · exact n (z.trans q)
    · rw [z, q] at h
      cases h
  exact ⟨t, a0, b0, k0, e, k _ _ hta h1 (fun _ z => by cases z) (fun _ _ _ z => by cases z) (fun _ z => by cases z), k _ _ n1 h2 (fun _ z => by cases z) (fun _ _ _ z => by cases z) (fun _ z => by cases z), k _ _ n2 h3 (fun _ z => by cases z) (fun _ _ _ z => by cases z) (fun _ z => by cases z), ne n1 h2, ne n2 h3, h4⟩
theorem Sts.keep {H H2 : Hp} {a a2 : Addr} {ms : List (List Str)} {vs : List V} (h : Sts H a ms vs) (k : ∀ y o, y ≠ a → H y = some o → (∀ xs, o ≠ .lst xs) → (∀ C dx fs, o ≠ .ins C dx fs) → (∀ ps, o ≠ .tbl ps) → H2 y = some o) (ha : a2 = a ∨ H a2 = none) (hat : ∀ xs, H a ≠ some (.tup xs)) : Sts H2 a2 ms vs := by
  induction h with
  | nil => exact .nil
  | cons h r ih => exact .cons (h.keep k ha hat) ih
theorem Sts.snoc {H : Hp} {a : Addr} {ms : List (List Str)} {vs : List V} {m : List Str} {v : V} (h : Sts H a ms vs) (hv : StA H a m v) : Sts H a (ms ++ [m]) (vs ++ [v]) := by
  induction h with
  | nil => exact .cons hv .nil
  | cons h r ih => exact .cons h ih
theorem Sts.last {H : Hp} {a : Addr} : ∀ {ms : List (List Str)} {vs : List V} {m : List Str}, Sts H a (ms ++ [m]) vs → ∃ us v, vs = us ++ [v] ∧ Sts H a ms us ∧ StA H a m v
  | [], _, m, h => by
    cases h with
    | cons h r =>
      cases r
      exact ⟨[], _, rfl, .nil, h⟩
  | m0 :: ms, _, m, h => by
    cases h with
    | cons h r =>
      obtain ⟨us, v, rfl, h1, h2⟩ := Sts.last r
      exact ⟨_ :: us, v, rfl, .cons h h1, h2⟩
theorem Sts.len {H : Hp} {a : Addr} {ms : List (List Str)} {vs : List V} (h : Sts H a ms vs) : vs.length = ms.length := by
  induction h with
  | nil => rfl
  | cons h r ih => rw [List.length_cons, List.length_cons, ih]
def ShAt (C : Addr) (H : Hp) (x : Addr) (ft : List Addr) (S : Shf) : Prop := ∃ dx a b p l d ks ps ls, ft = [x, a, p, l] ∧ H x = some (.ins C dx (shF a b 1 S.room p l d)) ∧ H a = some (.dK ks) ∧ H b = some (.dK []) ∧ a ≠ b ∧ H p = some (.lst ps) ∧ H l = some (.lst ls) ∧ p ≠ l ∧ Nms S.nm ks ∧ S.nm.Nodup ∧ Sts H a S.past ps ∧ Sts H a S.later ls
/-- behind an operation -/
def ShTo (C x : Addr) (ft : List Addr) (S : Shf) (H H2 : Hp) : Prop := ∃ ft2, ShAt C H2 x ft2 S ∧ (∀ y, y ∈ ft2 → y ∈ ft ∨ H y = none) ∧ ∀ y o, y ∉ ft → H y = some o → H2 y = some o
theorem ShAt.keep {C x : Addr} {H H2 : Hp} {ft : List Addr} {S : Shf} (h : ShAt C H x ft S) (k : ∀ y o, H y = some o → (∀ xs, o ≠ .lst xs) → (∀ ps, o ≠ .tbl ps) → H2 y = some o) (kl : ∀ y xs, y ∈ ft → H y = some (.lst xs) → H2 y = some (.lst xs)) : ShAt C H2 x ft S := by
  obtain ⟨dx, a, b, p, l, d, ks, ps, ls, rfl, hx, ha, hb, hab, hp, hl, hpl, hn, hnd, h1, h2⟩ := h
  refine ⟨dx, a, b, p, l, d, ks, ps, ls, rfl, k _ _ hx (fun _ z => by cases z) (fun _ z => by cases z), k _ _ ha (fun _ z => by cases z) (fun _ z => by cases z), k _ _ hb (fun _ z => by cases z) (fun _ z => by cases z), hab, kl _ _ (by simp) hp, kl _ _ (by simp) hl, hpl, hn, hnd, h1.keep (fun y o _ h a _ c => k y o h a c) (.inl rfl) (fun xs z => by rw [ha] at z; cases z), h2.keep (fun y o _ h a _ c => k y o h a c) (.inl rfl) (fun xs z => by rw [ha] at z; cases z)⟩
theorem ShAt.ex {C x : Addr} {H H2 : Hp} {ft : List Addr} {S : Shf} (h : ShAt C H x ft S) (e : Ex H H2) : ShAt C H2 x ft S := h.keep (fun y o h _ _ => e y o h) (fun y xs _ h => e y _ h)
theorem ShTo.ex {C x : Addr} {H H2 H3 : Hp} {ft : List Addr} {S : Shf} (h : ShTo C x ft S H H2) (e : Ex H2 H3) : ShTo C x ft S H H3 := by
  obtain ⟨ft2, a, b, c⟩ := h
  exact ⟨ft2, a.ex e, b, fun y o n h => e _ _ (c y o n h)⟩
theorem ShTo.pre {C x : Addr} {H H1 H2 : Hp} {ft : List Addr} {S : Shf} (h : ShTo C x ft S H1 H2) (e : Ex H H1) : ShTo C x ft S H H2 := by
  obtain ⟨ft2, a, b, c⟩ := h
  exact ⟨ft2, a, fun y hy => (b y hy).imp id (fresh_back e), fun y o n h => c y o n (e _ _ h)⟩
theorem ShAt.ins {C x : Addr} {H : Hp} {ft : List Addr} {S : Shf} (h : ShAt C H x ft S) : ∃ dx a b p l d, H x = some (.ins C dx (shF a b 1 S.room p l d)) := by
  obtain ⟨dx, a, b, p, l, d, ks, ps, ls, rfl, hx, _⟩ := h
  exact ⟨_, _, _, _, _, _, hx⟩
end Cp

namespace Cp
open PySem PySem.Spec PyProof.Rows L2 Evl GN GZ GP
/-- few of all -/
def Sml (S : Shf) : Prop := S.nm.length ≤ 60 ∧ S.past.length ≤ 60 ∧ S.later.length ≤ 60
/-! ### undo, redo -/
def spUnd (C : Addr) : Sp := fun vs H Q _ => ∃ x ft S ms m, vs = [.ref x] ∧ ShAt C H x ft S ∧ Sml S ∧ S.past = ms ++ [m] ∧ ∀ H2, ShTo C x ft ⟨m, S.room, ms, S.later ++ [S.nm]⟩ H H2 → Q .non H2
def spRed (C : Addr) : Sp := fun vs H Q _ => ∃ x ft S ms m, vs = [.ref x] ∧ ShAt C H x ft S ∧ Sml S ∧ S.later = ms ++ [m] ∧ ∀ H2, ShTo C x ft ⟨m, S.room, S.past ++ [S.nm], ms⟩ H H2 → Q .non H2
theorem und_of {K : PySem.W.Frag} {C : Addr} (vs : List V) (H : Hp) (Q : VK) (E : XK) (h : spUnd C vs H Q E) : spUn K C vs H Q E := by
  obtain ⟨x, ft, S, ms, m, rfl, ⟨dx, a, b, p, l, d, ks, ps, ls, rfl, hx, ha, hb, hab, hp, hl, hpl, hn, hnd, h1, h2⟩, ⟨s1, s2, s3⟩, hm, k⟩ := h
  rw [hm] at h1
  obtain ⟨us, v, rfl, hus, t, a0, b0, k0, rfl, ht, ha0, hb0, na0, nb0, hk0, hmd, hml⟩ := h1.last
  have l1 := hus.len
  have l2 := h2.len
  rw [hm, List.length_append] at s2
  simp at s2
  refine ⟨x, dx, a, b, 1, S.room, p, l, d, t, a0, b0, 1, ks, k0, us, ls, rfl, hx, ha, hb, hp, hl, hpl, by omega, by omega, ht, ha0, hb0, nms_nd hk0 hmd, by rw [nms_len hk0]; omega, fun a2 b2 a3 b3 t2 H2 na2 nb2 hx2 h2a h2b hp2 hl2 ht2 h3a h3b nd kk => ?_⟩
  simp only [List.nodup_cons, List.mem_cons, List.not_mem_nil, not_or, or_false, not_false_eq_true, List.nodup_nil, and_true] at nd
  have keep : ∀ y o, y ≠ a → H y = some o → (∀ xs, o ≠ .lst xs) → (∀ C dx fs, o ≠ .ins C dx fs) → (∀ ps, o ≠ .tbl ps) → H2 y = some o := fun y o _ h c1 c2 _ => kk y o (fun z => by rw [z, hx] at h; exact c2 _ _ _ (Option.some.inj h).symm) (fun z => by rw [z, hp] at h; exact c1 _ (Option.some.inj h).symm) (fun z => by rw [z, hl] at h; exact c1 _ (Option.some.inj h).symm) h
  have hat : ∀ xs, H a ≠ some (.tup xs) := fun xs z => by rw [ha] at z; cases z
  refine k H2 ⟨[x, a2, p, l], ⟨dx, a2, b2, p, l, d, k0, us, ls ++ [.ref t2], rfl, hx2, h2a, h2b, nd.1.1, hp2, hl2, hpl, hk0, hmd, hus.keep keep (.inr na2) hat, (h2.keep keep (.inr na2) hat).snoc ⟨t2, a3, b3, ks, rfl, ht2, h3a, h3b, Ne.symm nd.1.2.1, Ne.symm nd.1.2.2, hn, hnd, by omega⟩⟩, fun y hy => ?_, fun y o hy h => ?_⟩
  · simp only [List.mem_cons, List.not_mem_nil, or_false] at hy ⊢
    rcases hy with rfl | rfl | rfl | rfl
    · exact .inl (.inl rfl)
    · exact .inr na2
    · exact .inl (.inr (.inr (.inl rfl)))
    · exact .inl (.inr (.inr (.inr rfl)))
  · simp only [List.mem_cons, List.not_mem_nil, or_false, not_or] at hy
    exact kk y o hy.1 hy.2.2.1 hy.2.2.2 h
theorem red_of {K : PySem.W.Frag} {C : Addr} (vs : List V) (H : Hp) (Q : VK) (E : XK) (h : spRed C vs H Q E) : spRe K C vs H Q E := by
  obtain ⟨x, ft, S, ms, m, rfl, ⟨dx, a, b, p, l, d, ks, ps, ls, rfl, hx, ha, hb, hab, hp, hl, hpl, hn, hnd, h1, h2⟩, ⟨s1, s2, s3⟩, hm, k⟩ := h
  rw [hm] at h2
  obtain ⟨us, v, rfl, hus, t, a0, b0, k0, rfl, ht, ha0, hb0, na0, nb0, hk0, hmd, hml⟩ := h2.last
  have l1 := hus.len
  have l2 := h1.len
  rw [hm, List.length_append] at s3
  simp at s3
  refine ⟨x, dx, a, b, 1, S.room, l, p, d, t, a0, b0, 1, ks, k0, us, ps, rfl, hx, ha, hb, hl, hp, Ne.symm hpl, by omega, by omega, ht, ha0, hb0, nms_nd hk0 hmd, by rw [nms_len hk0]; omega, fun a2 b2 a3 b3 t2 H2 na2 nb2 hx2 h2a h2b hp2 hl2 ht2 h3a h3b nd kk => ?_⟩
  simp only [List.nodup_cons, List.mem_cons, List.not_mem_nil, not_or, or_false, not_false_eq_true, List.nodup_nil, and_true] at nd
  have keep : ∀ y o, y ≠ a → H y = some o → (∀ xs, o ≠ .lst xs) → (∀ C dx fs, o ≠ .ins C dx fs) → (∀ ps, o ≠ .tbl ps) → H2 y = some o := fun y o _ h c1 c2 _ => kk y o (fun z => by rw [z, hx] at h; exact c2 _ _ _ (Option.some.inj h).symm) (fun z => by rw [z, hl] at h; exact c1 _ (Option.some.inj h).symm) (fun z => by rw [z, hp] at h; exact c1 _ (Option.some.inj h).symm) h
  have hat : ∀ xs, H a ≠ some (.tup xs) := fun xs z => by rw [ha] at z; cases z
  refine k H2 ⟨[x, a2, p, l], ⟨dx, a2, b2, p, l, d, k0, ps ++ [.ref t2], us, rfl, hx2, h2a, h2b, nd.1.1, hl2, hp2, hpl, hk0, hmd, (h1.keep keep (.inr na2) hat).snoc ⟨t2, a3, b3, ks, rfl, ht2, h3a, h3b, Ne.symm nd.1.2.1, Ne.symm nd.1.2.2, hn, hnd, by omega⟩, hus.keep keep (.inr na2) hat⟩, fun y hy => ?_, fun y o hy h => ?_⟩
  · simp only [List.mem_cons, List.not_mem_nil, or_false] at hy ⊢
    rcases hy with rfl | rfl | rfl | rfl
    · exact .inl (.inl rfl)
    · exact .inr na2
    · exact .inl (.inr (.inr (.inl rfl)))
    · exact .inl (.inr (.inr (.inr rfl)))
  · simp only [List.mem_cons, List.not_mem_nil, or_false, not_or] at hy
    exact kk y o hy.1 hy.2.2.2 hy.2.2.1 h
/-! ### Shelf(), names, len, depth -/
def spShi (C : Addr) : Sp := fun vs H Q _ => ∃ x dx, vs = [.ref x] ∧ H x = some (.ins C dx []) ∧ ∀ ft H2, ShAt C H2 x ft ⟨[], 5, [], []⟩ → (∀ y, y ∈ ft → y = x ∨ H y = none) → (∀ y o, y ≠ x → H y = some o → H2 y = some o) → Q .non H2
def spNam (C : Addr) : Sp := fun vs H Q _ => ∃ x ft S, vs = [.ref x] ∧ ShAt C H x ft S ∧ Sml S ∧ ∀ ys q H2, ys.Perm S.nm → sortedS ys = true → H q = none → Ex H H2 → H2 q = some (.lst (ys.map V.str)) → Q (.ref q) H2
def spLen (C : Addr) : Sp := fun vs H Q _ => ∃ x ft S, vs = [.ref x] ∧ ShAt C H x ft S ∧ RetV (.int (S.nm.length : Nat)) H Q
def spDep (C : Addr) : Sp := fun vs H Q _ => ∃ x ft S, vs = [.ref x] ∧ ShAt C H x ft S ∧ ∀ t H2, H t = none → Ex H H2 → H2 t = some (.tup [.int (S.past.length : Nat), .int (S.later.length : Nat)]) → Q (.ref t) H2
theorem nam_of {C : Addr} (vs : List V) (H : Hp) (Q : VK) (E : XK) (h : spNam C vs H Q E) : spNm C vs H Q E := by
  obtain ⟨x, ft, S, rfl, ⟨dx, a, b, p, l, d, ks, ps, ls, rfl, hx, ha, hb, hab, hp, hl, hpl, hn, hnd, h1, h2⟩, ⟨s1, _, _⟩, k⟩ := h
  exact ⟨x, dx, a, b, 1, S.room, p, l, d, ks, S.nm, rfl, hx, ha, hn, by omega, k⟩
theorem len_of {C : Addr} (vs : List V) (H : Hp) (Q : VK) (E : XK) (h : spLen C vs H Q E) : spSl C vs H Q E := by
  obtain ⟨x, ft, S, rfl, ⟨dx, a, b, p, l, d, ks, ps, ls, rfl, hx, ha, hb, hab, hp, hl, hpl, hn, hnd, h1, h2⟩, k⟩ := h
  exact ⟨x, dx, a, b, 1, S.room, p, l, d, ks, rfl, hx, ha, by rw [nms_len hn]; exact k⟩
theorem dep_of {C : Addr} (vs : List V) (H : Hp) (Q : VK) (E : XK) (h : spDep C vs H Q E) : spDp C vs H Q E := by
  obtain ⟨x, ft, S, rfl, ⟨dx, a, b, p, l, d, ks, ps, ls, rfl, hx, ha, hb, hab, hp, hl, hpl, hn, hnd, h1, h2⟩, k⟩ := h
  exact ⟨x, dx, a, b, 1, S.room, p, l, d, ps, ls, rfl, hx, hp, hl, by rw [h1.len, h2.len]; exact k⟩
theorem shi_of {C : Addr} (vs : List V) (H : Hp) (Q : VK) (E : XK) (h : spShi C vs H Q E) : spSi C vs H Q E := by
  obtain ⟨x, dx, rfl, hx, k⟩ := h
  refine ⟨x, dx, rfl, hx, fun a b p l H2 na np nl hx2 ha hb hp hl nd kk => ?_⟩
  simp only [List.nodup_cons, List.mem_cons, List.not_mem_nil, not_or, or_false, not_false_eq_true, List.nodup_nil, and_true] at nd
  refine k [x, a, p, l] H2 ⟨dx, a, b, p, l, 0, [], [], [], rfl, hx2, ha, hb, nd.2.1.1, hp, hl, nd.2.2.2, rfl, List.nodup_nil, .nil, .nil⟩ (fun y hy => ?_) kk
  simp only [List.mem_cons, List.not_mem_nil, or_false] at hy
  rcases hy with rfl | rfl | rfl | rfl
  · exact .inl rfl
  · exact .inr na
  · exact .inr np
  · exact .inr nl
/-! ### do -/
def full (S : Shf) : List V → Prop
  | [.str w, _] => w ∉ S.nm ∧ S.room ≤ (S.nm.length : Int)
  | _ => False
def nmTo (m : List Str) : List V → List Str
  | [.str w, _] => putN m w
  | [.str w] => dropN m w
  | _ => m
def dAt (m : List Str) : Str → List V → Prop
  | z, [.str w, .str o] => isW w = true ∧ 1 ≤ w.length ∧ w.length ≤ 6 ∧ (z = "copy" → o ∈ m)
  | _, [.str w] => w ∈ m
  | _, _ => False
def spDo (C CF : Addr) : Sp := fun vs H Q E => ∃ x ft S t z rest, vs = [.ref x, .ref t] ∧ ShAt C H x ft S ∧ Sml S ∧ H t = some (.tup (.str z :: rest)) ∧ DeedOk z rest ∧ dAt S.nm z rest ∧
  (full S rest → ∀ dd H', H' dd = some (.xd (fFu (.int S.room))) → ShTo C x ft S H H' → E (.ref CF) (some dd) H') ∧
  (¬ full S rest → ∀ q H2, H q = none → H2 q = some (.lst []) → ShTo C x ft ⟨nmTo S.nm rest, S.room, S.past ++ [S.nm], []⟩ H H2 → Q (.ref q) H2)
theorem sc_do : FnScope ["self", "deed"] ["self", "deed"] (defScope (mS 19)) := ⟨rfl, rfl, rfl, by decide +kernel, rfl, by decide +kernel, by decide +kernel⟩
section
variable {P : Program} {w : World} {K : PySem.W.Frag} {mg : Str → Option Value} {base : Heap} {f : Addr} {fd : FuncData} {C CF CN : Addr}
theorem ok_do (F : MeP K "do" "Shelf.do" (mS 19) f fd) (sc : SC K C) (ST : Mcal P w K mg base C "step" (CX P w) 12 ["self", "deeds"] (spSt K C CF)) : FnOk P w K mg base (CX P w) 13 f fd ["self", "deed"] (spDo C CF) := by
  refine F.ok sc_do (fun vs H Q E h => ?_) (fun cdv A outer s H vs Q E hr h => ?_)
  · obtain ⟨x, ft, S, t, z, rest, rfl, _⟩ := h
    rfl
  · obtain ⟨x, ft, S, t, z, rest, rfl, ⟨dx, a, b, p, l, d, ks, ps, ls, rfl, hx, ha, hb, hab, hp, hl, hpl, hn, hnd, h1, h2⟩, ⟨s1, s2, s3⟩, ht, hd, hat, kE, kN⟩ := h
    refine ⟨_, pss_one (by
      exact ps_ret (pe_meth (pv 0) sc.cls ST.m ST.G hr ST.b .nil (passes_call (takes_of rfl rfl rfl rfl) fun _ _ _ _ h => h) (pa_cons (pe_lst (pa_cons (pv 1) pa_nil)) pa_nil))), ?_⟩
    have kl := nms_len hn
    have l1 := h1.len
    refine ⟨.ref x, rfl, x, dx, _, rfl, hx, rfl, .ref t, rfl, sz_of (n := 1) (by decide), fun dl hdl => ?_⟩
    have e1 := Ex.new (o := .lst [V.ref t]) hdl
    have ndp : dl ≠ p := fun z => by rw [z, hp] at hdl; cases hdl
    have hr1 : noRoom ks S.room z rest → full S rest := fun h => by
      cases hd with
      | put nm => exact ⟨(nms_val hn).mp h.1, by rw [← kl]; exact h.2⟩
      | copy nm o => exact ⟨(nms_val hn).mp h.1, by rw [← kl]; exact h.2⟩
      | drop nm => exact h.elim
    have hr2 : full S rest → noRoom ks S.room z rest := fun h => by
      cases hd with
      | put nm => exact ⟨(nms_val hn).mpr h.1, by rw [kl]; exact h.2⟩
      | copy nm o => exact ⟨(nms_val hn).mpr h.1, by rw [kl]; exact h.2⟩
      | drop nm => exact h.elim
    have hat2 : deedAt ks z rest := by
      cases hd with
      | put nm => exact ⟨hat.1, hat.2.1, hat.2.2.1, fun z => absurd z (by decide +kernel)⟩
      | copy nm o => exact ⟨hat.1, hat.2.1, hat.2.2.1, fun z => nms_some hn (hat.2.2.2 z)⟩
      | drop nm => exact nms_some hn hat
    have hatt : ∀ xs, H a ≠ some (.tup xs) := fun xs z => by rw [ha] at z; cases z
    refine ⟨x, dx, a, b, 1, S.room, p, l, d, t, z, rest, dl, ks, ps, rfl, e1 _ _ hx, e1 _ _ ha, e1 _ _ hb, hab, by omega, e1 _ _ hp, by omega, upd_same, ndp, e1 _ _ ht, hd, hat2, fun hnr a2 b2 dd H' hdd na2 nb2 hab2 hx' ha' hb' kk => ?_, fun hnr ks' b2 l2 a3 b3 s d2 q H2 hto hx' ha' hb' hab2 hbb nl2 hl2' hp' hs na3 nb3 h3a h3b nq hq kk => ?_⟩
    · have na2 := fresh_back e1 na2
      have kk2 : ∀ y o, y ≠ x → H y = some o → H' y = some o := fun y o hy h => kk y o hy (e1 _ _ h)
      have keep : ∀ y o, y ≠ a → H y = some o → (∀ xs, o ≠ .lst xs) → (∀ C dx fs, o ≠ .ins C dx fs) → (∀ ps, o ≠ .tbl ps) → H' y = some o := fun y o _ h c1 c2 _ => kk2 y o (fun z => by rw [z, hx] at h; exact c2 _ _ _ (Option.some.inj h).symm) h
      refine kE (hr1 hnr) dd H' hdd ⟨[x, a2, p, l], ⟨dx, a2, b2, p, l, 0, ks, ps, ls, rfl, hx', ha', hb', hab2, kk2 _ _ (fun z => by rw [z, hx] at hp; cases hp) hp, kk2 _ _ (fun z => by rw [z, hx] at hl; cases hl) hl, hpl, hn, hnd, h1.keep keep (.inr na2) hatt, h2.keep keep (.inr na2) hatt⟩, fun y hy => ?_, fun y o hy h => ?_⟩
      · simp only [List.mem_cons, List.not_mem_nil, or_false] at hy ⊢
        rcases hy with rfl | rfl | rfl | rfl
        · exact .inl (.inl rfl)
        · exact .inr na2
        · exact .inl (.inr (.inr (.inl rfl)))
        · exact .inl (.inr (.inr (.inr rfl)))
      · simp only [List.mem_cons, List.not_mem_nil, or_false, not_or] at hy
        exact kk2 y o hy.1 h
    · have kk2 : ∀ y o, y ≠ x → y ≠ a → y ≠ p → H y = some o → H2 y = some o := fun y o c1 c2 c3 h => kk y o c1 c2 c3 (e1 _ _ h)
      have keep : ∀ y o, y ≠ a → H y = some o → (∀ xs, o ≠ .lst xs) → (∀ C dx fs, o ≠ .ins C dx fs) → (∀ ps, o ≠ .tbl ps) → H2 y = some o := fun y o c0 h c1 c2 _ => kk2 y o (fun z => by rw [z, hx] at h; exact c2 _ _ _ (Option.some.inj h).symm) c0 (fun z => by rw [z, hp] at h; exact c1 _ (Option.some.inj h).symm) h
      have nl2 := fresh_back e1 nl2
      have na3 := fresh_back e1 na3
      have nb3 := fresh_back e1 nb3
      have nea : ∀ {y}, H y = none → y ≠ a := fun hy z => by rw [z, ha] at hy; cases hy
      have key : Nms (nmTo S.nm rest) ks' ∧ (nmTo S.nm rest).Nodup := by
        cases hd with
        | put nm =>
          obtain ⟨v, rfl⟩ := hto
          exact ⟨nms_put hn, nd_putN hnd⟩
        | copy nm o =>
          obtain ⟨v, rfl⟩ := hto
          exact ⟨nms_put hn, nd_putN hnd⟩
        | drop nm =>
          have hto : ks' = dropK ks (.inr nm) := hto
          subst hto
          exact ⟨nms_drop hn, nd_dropN hnd⟩
      refine kN (fun z => hnr (hr2 z)) q H2 (fresh_back e1 nq) hq ⟨[x, a, p, l2], ⟨dx, a, b2, p, l2, d2, ks', ps ++ [.ref s], [], rfl, hx', ha', hb', hab2, hp', hl2', (fun z => by rw [← z, hp] at nl2; cases nl2), key.1, key.2, (h1.keep keep (.inl rfl) hatt).snoc ⟨s, a3, b3, ks, rfl, hs, h3a, h3b, nea na3, nea nb3, hn, hnd, by omega⟩, .nil⟩, fun y hy => ?_, fun y o hy h => ?_⟩
      · simp only [List.mem_cons, List.not_mem_nil, or_false] at hy ⊢
        rcases hy with rfl | rfl | rfl | rfl
        · exact .inl (.inl rfl)
        · exact .inl (.inr (.inl rfl))
        · exact .inl (.inr (.inr (.inl rfl)))
        · exact .inr nl2
      · simp only [List.mem_cons, List.not_mem_nil, or_false, not_or] at hy
        exact kk2 y o hy.1 hy.2.1 hy.2.2.1 h
end
end Cp

namespace Cp
open PySem PySem.Spec PyProof.Rows L2 Evl GN GZ GP
/-! ### space -/
def spSpg (C : Addr) : Sp := fun vs H Q _ => ∃ x ft S, vs = [.ref x] ∧ ShAt C H x ft S ∧ RetV (.int S.room) H Q
theorem sc_spg : FnScope ["self"] ["self"] (defScope (mS 21)) := ⟨rfl, rfl, rfl, by decide +kernel, rfl, by decide +kernel, by decide +kernel⟩
def spSps (C CF : Addr) : Sp := fun vs H Q E => ∃ x ft S v, vs = [.ref x, .int v] ∧ ShAt C H x ft S ∧ (¬ ((S.nm.length : Int) ≤ v ∧ v ≤ 5) → ∀ dd H', H' dd = some (.xd (fFu (.int 5))) → Ex H H' → E (.ref CF) (some dd) H') ∧
  ((S.nm.length : Int) ≤ v ∧ v ≤ 5 → ∀ H2, ShTo C x ft ⟨S.nm, v, S.past, S.later⟩ H H2 → Q .non H2)
theorem sc_sps : FnScope ["self", "value"] ["self", "value"] (defScope (mS 22)) := ⟨rfl, rfl, rfl, by decide +kernel, rfl, by decide +kernel, by decide +kernel⟩
theorem sc_set : FnScope ["self", "value"] ["self", "value"] (defScope (mS 23)) := ⟨rfl, rfl, rfl, by decide +kernel, rfl, by decide +kernel, by decide +kernel⟩
/-- a chain a <= b <= c of ints -/
theorem ev_chain {σ : L2.St} {H : Hp} {ta tb tc : TE} {x y z : Int} (h1 : Ev ta σ H (.int x)) (h2 : Ev tb σ H (.int y)) (h3 : Ev tc σ H (.int z)) : Ev (tChain (rI0 fun i j => .bl (decide (i ≤ j))) (rI0 fun i j => .bl (decide (i ≤ j))) ta tb tc) σ H (.bl (decide (x ≤ y ∧ y ≤ z))) := fun H1 e Q q =>
  h1 H1 e _ fun H2 e2 => h2 H2 (e.trans e2) _ fun H3 e3 => by
    by_cases hxy : x ≤ y
    · refine ⟨x, y, rfl, rfl, true, (by show V.bl (decide (x ≤ y)) = _; rw [decide_eq_true hxy]), h3 H3 ((e.trans e2).trans e3) _ fun H4 e4 => ⟨y, z, rfl, rfl, ?_⟩⟩
      have : decide (x ≤ y ∧ y ≤ z) = decide (y ≤ z) := decide_eq_decide.mpr ⟨fun h => h.2, fun h => ⟨hxy, h⟩⟩
      rw [this] at q
      exact q H4 ((e2.trans e3).trans e4)
    · refine ⟨x, y, rfl, rfl, false, (by show V.bl (decide (x ≤ y)) = _; rw [decide_eq_false hxy]), ?_⟩
      have : decide (x ≤ y ∧ y ≤ z) = false := decide_eq_false fun h => hxy h.1
      rw [this] at q
      exact q H3 (e2.trans e3)
section
variable {X : Cx} {f : Addr} {x : Str} {e : Expr} {te : TE} {p pos : Pos}
/-- f(e), where the making of the argument raises -/
theorem pe_callNo (hg : Gl X x) (hm : X.mg x = some (.ref f)) (hk : PySem.W.keepIn X.K (.ref f) = true) (ha : PE X e te) (hdb : (x == ("__debug__" : Str)) = false := by decide) (he : starEach [e] X.env = (false, eval e X.env) :: starEach [] X.env := by rfl) (hpl : (backTo pos (starEach [] X.env)).any (·.1) = false := by rfl) :
    PE X (.Call (.Name x p) [e] [] pos) (fun σ H _ => te σ H fun _ _ => False) := by
  refine ⟨fun pins s σ H Q I h => ?_⟩
  refine wpAny_Call_Name_kw (ld_glob I hg hm ?_ hdb)
  refine PySem.W.callWith_K (h₀ := X.base) I.ok.mod.kin hk (thn ((pa_cons ha pa_nil he).run pos pins s σ H (fun _ _ => False) I h) fun us s1 ⟨vs, H1, I1, r, q⟩ => False.elim q) he hpl
end
def spTx (C CN : Addr) : Sp := fun vs H Q E => ∃ x ft S nm, vs = [.ref x, .str nm] ∧ ShAt C H x ft S ∧ nm ∉ S.nm ∧ ∀ dd H', H' dd = some (.xd (fNp (.str nm))) → Ex H H' → E (.ref CN) (some dd) H'
theorem sc_tx : FnScope ["self", "name"] ["self", "name"] (defScope (mS 28)) := ⟨rfl, rfl, rfl, by decide +kernel, rfl, by decide +kernel, by decide +kernel⟩
theorem pgn_of {C CN : Addr} (vs : List V) (H : Hp) (Q : VK) (E : XK) (h : spTx C CN vs H Q E) : spPg C CN vs H Q E := by
  obtain ⟨x, ft, S, nm, rfl, ⟨dx, a, b, p, l, d, ks, ps, ls, rfl, hx, ha, hb, hab, hp, hl, hpl, hn, hnd, h1, h2⟩, hno, k⟩ := h
  refine ⟨x, dx, a, b, 1, S.room, p, l, d, ks, nm, rfl, hx, ha, fun _ => k, fun v hv => ?_⟩
  rw [(nms_val hn).mpr hno] at hv
  cases hv
section
variable {P : Program} {w : World} {K : PySem.W.Frag} {mg : Str → Option Value} {base : Heap} {f : Addr} {fd : FuncData} {C CF CN : Addr}
theorem ok_spg (F : MeP K "space" "Shelf.space" (mS 21) f fd) (sc : SC K C) : FnOk P w K mg base CX0 1 f fd ["self"] (spSpg C) := by
  refine F.ok sc_spg (fun vs H Q E h => ?_) (fun cdv A outer s H vs Q E hr h => ?_)
  · obtain ⟨x, ft, S, rfl, _⟩ := h
    rfl
  · obtain ⟨x, ft, S, rfl, hS, k⟩ := h
    obtain ⟨dx, a, b, p, l, d, hx⟩ := hS.ins
    refine ⟨_, pss_one (by exact ps_ret (pe_fld (pv 0) rfl)), ?_⟩
    exact s_ret (ev_fld (ev_var rfl) hx sc.cls sc.room rfl) fun H1 e1 => k.go e1
theorem ok_sps {t : Tok} (F : MeP K "space" "Shelf.space" (mS 22) f fd) (sc : SC K C) (FU : Oex P w K mg base "Full" CF ["self", "bound"] (spFu CF)) (gL : mg "len" = none) (gP : mg "PROGRAMS" = some (.int 5 t)) : FnOk P w K mg base (CX P w) 3 f fd ["self", "value"] (spSps C CF) := by
  refine F.ok sc_sps (fun vs H Q E h => ?_) (fun cdv A outer s H vs Q E hr h => ?_)
  · obtain ⟨x, ft, S, v, rfl, _⟩ := h
    rfl
  · obtain ⟨x, ft, S, v, rfl, ⟨dx, a, b, p, l, d, ks, ps, ls, rfl, hx, ha, hb, hab, hp, hl, hpl, hn, hnd, h1, h2⟩, kE, kN⟩ := h
    refine ⟨_, pss_cons (by
        exact ps_if (pt_not (by
          exact pt_chain op_le op_le (pe_callB call_lenD (by rfl) gL PySem.boot_len (pa_cons (pe_fld (pv 0) rfl) pa_nil)) (pv 1) (pe_glob (v := .int 5) (by rfl) gP ⟨_, rfl⟩))) (pss_one (by
          exact ps_raise rfl (takes_of rfl rfl rfl rfl) (pmk_oex FU.T FU.i FU.t FU.G hr FU.b .nil pass0 (by rfl) FU.g (pa_cons (pe_glob (v := .int 5) (by rfl) gP ⟨_, rfl⟩) pa_nil)))) pss_nil) <| pss_one (by
        exact ps_asg (pv 1) (pg_fld (pv 0))), ?_⟩
    have kl := nms_len hn
    refine q_when (b := !decide ((S.nm.length : Int) ≤ v ∧ v ≤ 5)) (et_not (et_test (ev_chain (x := (S.nm.length : Int)) (y := v) (z := 5) (fun H1 e1 Q1 q1 => ?_) (ev_var rfl) ev_c))) (fun hb2 H1 e1 => ?_) fun hb2 H1 e1 => ?_
    · refine (ev_fld (K := K) (f := "programs") (v := .ref a) (ev_var rfl) hx sc.cls sc.programs rfl) H1 e1 _ fun H2 e2 => ⟨a, ks, rfl, (e1.trans e2) _ _ ha, ?_⟩
      rw [kl]
      exact q1 H2 e2
    · refine tmk_Fu (v := .int 5) (ea_cons ev_c ea_nil) fun dd H' hd e => kE (fun z => ?_) dd H' hd (e1.trans e)
      rw [decide_eq_true z] at hb2
      cases hb2
    · refine ⟨.int v, rfl, .ref x, rfl, x, C, dx, _, rfl, e1 _ _ hx, sc.cls, sc.room, (show (7 : Nat) < 1000 by decide), ?_⟩
      have hok : (S.nm.length : Int) ≤ v ∧ v ≤ 5 := by
        by_cases z : (S.nm.length : Int) ≤ v ∧ v ≤ 5
        · exact z
        · rw [decide_eq_false z] at hb2
          cases hb2
      have k2 : ∀ y o, y ≠ x → H y = some o → (upd H1 x (.ins C dx (putF "room" (.int v) (shF a b 1 S.room p l d)))) y = some o := fun y o hy h => by
        rw [upd_ne hy]
        exact e1 _ _ h
      have x2 : (upd H1 x (.ins C dx (putF "room" (.int v) (shF a b 1 S.room p l d)))) x = some (.ins C dx (shF a b 1 v p l d)) := by
        rw [upd_same, show putF "room" (.int v) (shF a b 1 S.room p l d) = shF a b 1 v p l d by kernel_rfl]
      have nx : ∀ {y o}, H y = some o → (∀ C dx fs, o ≠ .ins C dx fs) → y ≠ x := fun h ho z => by
        rw [z, hx] at h
        exact ho _ _ _ (Option.some.inj h).symm
      have hatt : ∀ xs, H a ≠ some (.tup xs) := fun xs z => by rw [ha] at z; cases z
      have keep : ∀ y o, y ≠ a → H y = some o → (∀ xs, o ≠ .lst xs) → (∀ C dx fs, o ≠ .ins C dx fs) → (∀ ps, o ≠ .tbl ps) → _ := fun y o _ h _ c2 _ => k2 y o (nx h c2) h
      refine kN hok _ ⟨[x, a, p, l], ⟨dx, a, b, p, l, d, ks, ps, ls, rfl, x2, k2 _ _ (nx ha (fun _ _ _ z => by cases z)) ha, k2 _ _ (nx hb (fun _ _ _ z => by cases z)) hb, hab, k2 _ _ (nx hp (fun _ _ _ z => by cases z)) hp, k2 _ _ (nx hl (fun _ _ _ z => by cases z)) hl, hpl, hn, hnd, h1.keep keep (.inl rfl) hatt, h2.keep keep (.inl rfl) hatt⟩, fun y hy => .inl hy, fun y o hy h => ?_⟩
      simp only [List.mem_cons, List.not_mem_nil, or_false, not_or] at hy
      exact k2 y o hy.1 h
theorem ok_set {p g : Addr} {fdG : FuncData} (F : MeP K "set_space" "Shelf.set_space" (mS 23) f fd) (sc : SC K C) (PS : PropSet K C "space" p g) (G : FnOk P w K mg base (CX P w) 3 g fdG ["self", "value"] (spSps C CF)) (b : Binds K fdG ["self", "value"] []) : FnOk P w K mg base (CX P w) 6 f fd ["self", "value"] (spSps C CF) := by
  refine F.ok sc_set (fun vs H Q E h => ?_) (fun cdv A outer s H vs Q E hr h => ?_)
  · obtain ⟨x, ft, S, v, rfl, _⟩ := h
    rfl
  · obtain ⟨x, ft, S, v, rfl, hS, kE, kN⟩ := h
    refine ⟨_, pss_one (by
      exact ps_prop (pv 0) (pv 1) sc.cls PS G hr b (passes_call (takes_of rfl rfl rfl rfl) fun _ _ _ _ h => h) rfl), ?_⟩
    obtain ⟨dx, a, b, p, l, d, hx⟩ := hS.ins
    exact ⟨.int v, rfl, .ref x, rfl, x, dx, _, rfl, hx, x, ft, S, v, rfl, hS, kE, kN⟩
theorem ok_tx {fT : Addr} (F : MeP K "text_of" "Shelf.text_of" (mS 28) f fd) (sc : SC K C) (PG : Mcal P w K mg base C "program" (CX P w) 3 ["self", "name"] (spPg C CN)) (gT : mg "program_text" = some (.ref fT)) (kT : PySem.W.keepIn K (.ref fT) = true) : FnOk P w K mg base (CX P w) 4 f fd ["self", "name"] (spTx C CN) := by
  refine F.ok sc_tx (fun vs H Q E h => ?_) (fun cdv A outer s H vs Q E hr h => ?_)
  · obtain ⟨x, ft, S, nm, rfl, _⟩ := h
    rfl
  · obtain ⟨x, ft, S, nm, rfl, hS, hno, k⟩ := h
    refine ⟨_, pss_one (by
      exact ps_ret (pe_callNo (by rfl) gT kT (by
        exact pe_meth (pv 0) sc.cls PG.m PG.G hr PG.b .nil (passes_call (takes_of rfl rfl rfl rfl) fun _ _ _ _ h => h) (pa_cons (pv 1) pa_nil)))), ?_⟩
    obtain ⟨dx, a, b, p, l, d, hx⟩ := hS.ins
    exact ⟨.ref x, rfl, x, dx, _, rfl, hx, rfl, .str nm, rfl, pgn_of _ _ _ _ ⟨x, ft, S, nm, rfl, hS, hno, k⟩⟩
end
end Cp

namespace Cp
open PySem PySem.Spec PyProof.Rows L2 Evl GN GZ
/-! ### the law's words -/
def mores : List Str := ["", "", "x", "oo", "stuvw"]
def letter (n : Nat) : Str := ⟨#[97 + n]⟩
def wordOf (s n : Nat) (more : Str) : Str := if s = 0 then more ++ letter n else letter n ++ more
def sigOf (s : Nat) (w : Str) : Nat := if s = 0 then (w.cps[w.cps.size - 1]?).getD 0 else (w.cps[0]?).getD 0
def goodW (w : Str) : Bool := isW w && (decide (1 ≤ w.length) && (decide (w.length ≤ 6) && decide (w ≠ "nosuch")))
theorem words_all : ((List.range 2).all fun s => (List.range 26).all fun n => mores.all fun m => goodW (wordOf s n m) && decide (sigOf s (wordOf s n m) = 97 + n)) = true := by decide +kernel
theorem word_ok {s n : Nat} {m : Str} (hs : s < 2) (hn : n < 26) (hm : m ∈ mores) : goodW (wordOf s n m) = true ∧ sigOf s (wordOf s n m) = 97 + n := by
  have h := List.all_eq_true.mp (List.all_eq_true.mp (List.all_eq_true.mp words_all s (List.mem_range.mpr hs)) n (List.mem_range.mpr hn)) m hm
  rw [Bool.and_eq_true] at h
  exact ⟨h.1, of_decide_eq_true h.2⟩
theorem letters_all : ((List.range 26).all fun n => decide (atI lowL.cps.toList (n : Int) = some (97 + n))) = true := by decide +kernel
theorem letters_at {n : Nat} (hn : n < 26) : atI lowL.cps.toList (n : Int) = some (97 + n) := of_decide_eq_true (List.all_eq_true.mp letters_all n (List.mem_range.mpr hn))
def GoodWs (ws : List Str) : Prop := ws.length = 6 ∧ ws.Nodup ∧ ∀ w ∈ ws, goodW w = true
def numOf (first : Int) (k : Nat) : Nat := ((first + 7 * (k : Int)) % 26).toNat
theorem num_lt (first : Int) (k : Nat) : numOf first k < 26 := by
  unfold numOf
  have h1 := Int.emod_nonneg (first + 7 * (k : Int)) (show (26 : Int) ≠ 0 by decide)
  have h2 := Int.emod_lt_of_pos (first + 7 * (k : Int)) (show (0 : Int) < 26 by decide)
  omega
theorem num_inj {first : Int} {i j : Nat} (hi : i < 6) (hj : j < 6) (h : numOf first i = numOf first j) : i = j := by
  unfold numOf at h
  omega
theorem good_of {first : Int} {s : Nat} (hs : s < 2) {ws : List Str} (hl : ws.length = 6) (h : ∀ (j : Nat) w, ws[j]? = some w → ∃ m ∈ mores, w = wordOf s (numOf first j) m) : GoodWs ws := by
  refine ⟨hl, ?_, fun w hw => ?_⟩
  · rw [List.nodup_iff_pairwise_ne, List.pairwise_iff_getElem]
    intro i j hi hj hij e
    obtain ⟨m, hm, e1⟩ := h i _ (List.getElem?_eq_getElem hi)
    obtain ⟨m', hm', e2⟩ := h j _ (List.getElem?_eq_getElem hj)
    have s1 := (word_ok hs (num_lt first i) hm).2
    have s2 := (word_ok hs (num_lt first j) hm').2
    rw [← e1, e, e2, s2] at s1
    have := num_inj (first := first) (by omega) (by omega) (show numOf first i = numOf first j by omega)
    omega
  · obtain ⟨j, hj⟩ := List.mem_iff_getElem?.mp hw
    obtain ⟨m, hm, rfl⟩ := h j w hj
    exact (word_ok hs (num_lt first j) hm).1
end Cp

namespace Cp
open PySem PySem.Spec PyProof.Rows L2 Evl GN GZ
theorem BagOk.ex {K : PySem.W.Frag} {H H2 : Hp} {b l : Addr} (h : BagOk K H b l) (e : Ex H H2) : BagOk K H2 b l := by
  obtain ⟨ns, i, big, seed, cnt, hb, hl, hlb⟩ := h
  exact ⟨ns, i, big, seed, cnt, e _ _ hb, e _ _ hl, hlb⟩
theorem BagOk.at_ {K : PySem.W.Frag} {H : Hp} {b l : Addr} (h : BagOk K H b l) : ∃ xs, H b = some (.lst xs) := by
  obtain ⟨_, _, _, _, _, hb, _⟩ := h
  exact ⟨_, hb⟩
def spWords (K : PySem.W.Frag) : Sp := fun vs H Q _ => ∃ b l, vs = [.ref b, .int 6] ∧ BagOk K H b l ∧ ∀ W ws H2, H W = none → H2 W = some (.lst (ws.map V.str)) → GoodWs ws → But b H H2 → BagOk K H2 b l → Q (.ref W) H2
def Nwd : List Str := ["_law_bag_here", "_law_many", "_law_letters", "_law_first", "_law_side", "_law_found", "_law_k", "_law_sign", "_law_more"]
theorem sc_wd : FnScope Nwd ["_law_bag_here", "_law_many"] (defScope (top 103)) := ⟨rfl, rfl, rfl, by decide +kernel, rfl, by decide +kernel, by decide +kernel⟩
section
variable {P : Program} {w : World} {K : PySem.W.Frag} {mg : Str → Option Value} {base : Heap} {f : Addr} {fd : FuncData}
theorem ok_wd (F : FnP K "_law_words" (top 103) [] f fd) (TK : Cal P w K mg base "_law_take" 1 ["_law_bag_here", "_law_many"] (spTake K)) (PK : Cal P w K mg base "_law_pick" 2 ["_law_bag_here", "_law_some"] (spPick K)) (gI : mg "int" = none) (gR : mg "range" = none) : FnOk P w K mg base CX0 3 f fd ["_law_bag_here", "_law_many"] (spWords K) := by
  refine F.ok sc_wd (fun vs H Q E h => ?_) (fun cdv A outer s H vs Q E hr h => ?_)
  · obtain ⟨b, l, rfl, _⟩ := h
    rfl
  · have hrm := fun j (h : j ≤ 2) => hr.mono (j := j) h
    obtain ⟨b, l, rfl, hB, k⟩ := h
    refine ⟨_, pss_cons (by
        exact ps_par3 (i := 2) (j := 3) (l := 4) rfl sc_wd.nd rfl rfl rfl (by decide) (by decide) (by decide) rfl rfl rfl (pa_cons pe_str (pa_cons (pe_call TK.G (hrm 1 (by decide)) (by rfl) TK.g TK.k TK.b .nil pass0 (pa_cons (pv 0) (pa_cons pe_int pa_nil))) (pa_cons (pe_call TK.G (hrm 1 (by decide)) (by rfl) TK.g TK.k TK.b .nil pass0 (pa_cons (pv 0) (pa_cons pe_int pa_nil))) pa_nil))) rfl) <| pss_cons (by
        exact ps_asg (pe_lst pa_nil) (pg_name (i := 5) sc_wd.nd rfl (Or.inl rfl))) <| pss_cons (by
        refine ps_for (passes_of rfl) rfl (pi_range1 (by rfl) gR (pa_cons (pv 1) pa_nil)) (pg_name (i := 6) sc_wd.nd rfl (Or.inl rfl)) (pss_cons (by
          exact ps_par (i := 7) (j := 8) rfl sc_wd.nd rfl rfl (by decide) rfl rfl (pa_cons (pe_ix ix_str (pv 2) (pe_op op_mod (pe_callTy call_int1 (by rfl) gI boot_int (pa_cons (pe_op op_add (pv 3) (pe_op op_mul pe_int (pv 6))) pa_nil)) pe_int) (fun _ _ => rfl)) (pa_cons (pe_call PK.G (hrm 2 (by decide)) (by rfl) PK.g PK.k PK.b .nil pass0 (pa_cons (pv 0) (pa_cons (pe_lst (pa_cons pe_str (pa_cons pe_str (pa_cons pe_str (pa_cons pe_str (pa_cons pe_str pa_nil)))))) pa_nil))) pa_nil)) rfl) <| pss_one (by
          exact ps_expr (pe_bm PySem.F.plainAttrs_list PySem.F.slot_list_append PySem.F.type_list_append mt_append (pv 5) (pa_cons (pe_ix ix_list (pe_lst (pa_cons (pe_op op_add_str (pv 8) (pv 7)) (pa_cons (pe_op op_add_str (pv 7) (pv 8)) pa_nil))) (pv 4) (fun _ _ => rfl)) pa_nil))))) <| pss_one (by
        exact ps_ret (pv 5)), ?_⟩
    refine ⟨.ref b, rfl, b, l, 26, rfl, by decide, by decide, hB, fun first H1 f0 f1 bt1 hB1 => ?_⟩
    refine ⟨.ref b, rfl, b, l, 2, rfl, by decide, by decide, hB1, fun side H2 d0 d1 bt2 hB2 => ?_⟩
    refine ⟨_, _, _, rfl, ?_⟩
    obtain ⟨s, rfl, hs⟩ : ∃ s : Nat, side = (s : Int) ∧ s < 2 := ⟨side.toNat, by omega, by omega⟩
    have bt02 := bt1.trans bt2
    refine q_asgL (xs := []) (el_lst ea_nil (show (0 : Nat) ≤ 100000 by decide)) fun W H3 nW e3 hW => ?_
    obtain ⟨xb, hbx⟩ : ∃ o, H b = some o := by
      obtain ⟨_, _, _, _, _, hb, _⟩ := hB
      exact ⟨_, hb⟩
    have hWb : W ≠ b := fun z => by
      obtain ⟨_, _, _, _, _, hb, _⟩ := hB2
      rw [z, hb] at nW
      cases nW
    have nWH : H W = none := by
      cases h : H W with
      | none => rfl
      | some o =>
        have := bt02 _ _ hWb h
        rw [nW] at this
        cases this
    refine q_forR1 (n := 6) (ea_cons (ev_var rfl) ea_nil) ⟨by decide, by decide⟩ (fun i σ' H' => ∃ p6 p7 p8 ws, σ' = [some (V.ref b), some (.int 6), some (.str lowL), some (.int first), some (.int (s : Int)), some (.ref W), p6, p7, p8] ∧ But b H H' ∧ BagOk K H' b l ∧ H' W = some (.lst (ws.map V.str)) ∧ ws.length = i ∧ ∀ (j : Nat) w, ws[j]? = some w → ∃ m ∈ mores, w = wordOf s (numOf first j) m)
      (fun H4 e4 => ⟨_, _, _, [], rfl, (bt02.ex e3).ex e4, (hB2.ex e3).ex e4, e4 _ _ hW, rfl, fun j w h => by simp at h⟩) (fun i σ' H' hi z => ?_) fun σ' H' z => ?_
    · obtain ⟨p6, p7, p8, ws, rfl, bt, hB', hW', hwl, hws⟩ := z
      have hlt := num_lt first i
      have hn : ((numOf first i : Nat) : Int) = (first + 7 * (i : Int)) % 26 := by
        unfold numOf
        have h1 := Int.emod_nonneg (first + 7 * (i : Int)) (show (26 : Int) ≠ 0 by decide)
        omega
      refine (ev_op (r := rIxS) (x := .str lowL) (y := .int (numOf first i : Nat)) (z := .str (letter (numOf first i))) (ev_var rfl) (ev_is (ev_op (x := .int (first + 7 * (i : Int))) (y := .int 26) (ev_int (ev_op (x := .int first) (y := .int (7 * (i : Int))) (ev_var rfl) (ev_op (x := .int 7) (y := .int (i : Int)) ev_c (ev_var rfl) (rv_I (.inl ⟨by decide, by decide⟩))) rv_I0)) ev_c (rv_I (by decide))) (by rw [hn])) (rv_ixS (by decide +kernel) (letters_at hlt))) H' (Ex.refl _) _ fun H4 e4 => ?_
      refine ⟨.ref b, rfl, sz_of (n := 5) (by decide), fun ml hml => ?_⟩
      have e5 := Ex.new (o := .lst [V.str "", .str "", .str "x", .str "oo", .str "stuvw"]) hml
      have hBm := (hB'.ex e4).ex e5
      have hmb : ml ≠ b := fun z => by
        obtain ⟨xs, h⟩ := (hB'.ex e4).at_
        rw [z, h] at hml
        cases hml
      refine ⟨b, ml, _, l, rfl, sq_of upd_same, hmb, by decide, by decide, hBm, fun j x H6 hj bt6 hB6 => ?_⟩
      obtain ⟨m, hm, rfl⟩ : ∃ m ∈ mores, x = V.str m := by
        have : x ∈ mores.map V.str := List.mem_of_getElem? hj
        obtain ⟨m, hm, e⟩ := List.mem_map.mp this
        exact ⟨m, hm, e.symm⟩
      have hW6 : H6 W = some (.lst (ws.map V.str)) := bt6 _ _ hWb (e5 _ _ (e4 _ _ hW'))
      have bt06 : But b H H6 := ((bt.ex e4).ex e5).trans bt6
      refine ⟨_, _, rfl, ?_⟩
      have hml6 : m.length ≤ 10 := by
        have : ∀ m ∈ mores, m.length ≤ 10 := by decide +kernel
        exact this m hm
      have hll : (letter (numOf first i)).length = 1 := rfl
      have add : ∀ {σ : L2.St} {a c : Str} {t1 t2 : TE}, a.length ≤ 10 → c.length ≤ 10 → Ev t1 σ H6 (.str a) → Ev t2 σ H6 (.str c) → Ev (tOp (fun x y H Q => ∃ i j, x = .str i ∧ y = .str j ∧ i.length + j.length ≤ sizeLine ∧ Q (.str (i ++ j)) H) t1 t2) σ H6 (.str (a ++ c)) := fun {σ a c t1 t2} ha hc h1 h2 => ev_op h1 h2 fun H1 _ Q q => ⟨a, c, rfl, rfl, sz_of (by omega), q H1 (Ex.refl _)⟩
      refine s_app (l := W) (xs := ws.map V.str) (v := .str (wordOf s (numOf first i) m)) hW6 (ev_var rfl) (ev_opL1 (el_lst (ea_cons (add (a := m) (c := letter (numOf first i)) (by omega) (by omega) (ev_var rfl) (ev_var rfl)) (ea_cons (add (a := letter (numOf first i)) (c := m) (by omega) (by omega) (ev_var rfl) (ev_var rfl)) ea_nil)) (show (2 : Nat) ≤ 100000 by decide)) (fun H7 e7 => ev_var (v := .int (s : Int)) rfl) fun p H7 hp7 e7 => rv_ixL (sq_of hp7) (atI_nat ?_)) (by rw [List.length_map]; omega) fun H7 e7 => ?_
      · match s, hs with
        | 0, _ => rfl
        | 1, _ => rfl
      · have bt07 : But b H (upd H7 W (.lst (ws.map V.str ++ [.str (wordOf s (numOf first i) m)]))) := fun y o hy h => by
          have hyW : y ≠ W := fun z => by rw [z, nWH] at h; cases h
          rw [upd_ne hyW]
          exact e7 _ _ (bt06 _ _ hy h)
        refine ⟨_, _, _, ws ++ [wordOf s (numOf first i) m], rfl, bt07, ?_, by rw [upd_same, List.map_append]; rfl, by rw [List.length_append, hwl]; rfl, fun j w hjw => ?_⟩
        · obtain ⟨ns, ii, big, seed, cnt, hb, hl, hlb⟩ := hB6.ex e7
          have hlW : l ≠ W := fun z => by
            rw [z] at hl
            rw [e7 _ _ hW6] at hl
            have h2 := HO.lst.inj (Option.some.inj hl)
            obtain ⟨_, _, _, _, _, _, h3, _⟩ := hB
            rw [z, nWH] at h3
            cases h3
          exact ⟨ns, ii, big, seed, cnt, by rw [upd_ne (Ne.symm hWb)]; exact hb, by rw [upd_ne hlW]; exact hl, hlb⟩
        · by_cases hji : j < ws.length
          · rw [List.getElem?_append_left hji] at hjw
            exact hws j w hjw
          · rw [List.getElem?_append_right (by omega)] at hjw
            have hj0 : j - ws.length = 0 := by
              have := (List.getElem?_eq_some_iff.mp hjw).1
              simp at this
              omega
            rw [hj0] at hjw
            have e : wordOf s (numOf first i) m = w := Option.some.inj hjw
            have : j = i := by omega
            subst this
            exact ⟨m, hm, e.symm⟩
    · obtain ⟨p6, p7, p8, ws, rfl, bt, hB', hW', hwl, hws⟩ := z
      exact s_ret (v := .ref W) (ev_var rfl) fun H4 e4 => k W ws H4 nWH (e4 _ _ hW') (good_of hs hwl hws) (bt.ex e4) (hB'.ex e4)
end
end Cp

namespace Cp
open PySem PySem.Spec PyProof.Rows L2 Evl GN GZ
/-! ### _law_alike of two like values -/
def Flk (v u : V) : Prop := (v = .non ∧ u = .non) ∨ (∃ i, v = .int i ∧ u = .int i) ∨ ∃ z, v = .str z ∧ u = .str z
def Alk (H : Hp) : Nat → V → V → Prop
  | 0, v, u => Flk v u
  | n + 1, v, u => Flk v u ∨ ∃ p q xs ys, v = .ref p ∧ u = .ref q ∧ ((H p = some (.lst xs) ∧ H q = some (.lst ys)) ∨ (H p = some (.tup xs) ∧ H q = some (.tup ys))) ∧ xs.length = ys.length ∧ xs.length ≤ 100 ∧ ∀ (i : Nat) x y, xs[i]? = some x → ys[i]? = some y → Alk H n x y
theorem Alk.ex {H H1 : Hp} (e : Ex H H1) : ∀ {n : Nat} {v u : V}, Alk H n v u → Alk H1 n v u
  | 0, _, _, h => h
  | n + 1, _, _, .inl h => .inl h
  | n + 1, _, _, .inr ⟨p, q, xs, ys, a, b, c, d, l, k⟩ => .inr ⟨p, q, xs, ys, a, b, c.imp (fun z => ⟨e _ _ z.1, e _ _ z.2⟩) (fun z => ⟨e _ _ z.1, e _ _ z.2⟩), d, l, fun i x y hx hy => Alk.ex e (k i x y hx hy)⟩
def spAl (n : Nat) : Sp := fun vs H Q _ => ∃ v u, vs = [v, u] ∧ Alk H n v u ∧ RetV (.bl true) H Q
def Nal : List Str := ["_law_found", "_law_due", "_law_k"]
theorem sc_al : FnScope Nal ["_law_found", "_law_due"] (defScope (top 100)) := ⟨rfl, rfl, rfl, by decide +kernel, rfl, by decide +kernel, by decide +kernel⟩
section
variable {K : PySem.W.Frag} {σ : L2.St} {H : Hp} {te : TE}
theorem ev_isi {v : V} {a b : String} {r : Bool} (h : Ev te σ H v) (ty : ∀ H1, Ex H H1 → TyX K H1 v (.type a)) (hk : kitB a b = some r) : Ev (tCB (rIsi K) (tCons te (tCons (tC (.ty b)) tNil))) σ H (.bl r) :=
  ev_cb (ea_cons h (ea_cons ev_c ea_nil)) fun H1 e1 Q q => ⟨_, _, .type a, .type b, r, rfl, .ty _, ty H1 e1, kit_ty hk, q H1 (Ex.refl _)⟩
theorem et_isNn {v : V} {b : Bool} (h : Ev te σ H v) (hb : decide (v = .non) = b) : EvT (tTest (tOp (fun x y H Q => y = .non ∧ Q (.bl (decide (x = .non))) H) te (tC .non))) σ H b := et_test (ev_is (ev_op h ev_c fun H1 _ Q q => ⟨rfl, q H1 (Ex.refl _)⟩) (by rw [hb]))
theorem ev_isNn {v : V} {b : Bool} (h : Ev te σ H v) (hb : decide (v = .non) = b) : Ev (tOp (fun x y H Q => y = .non ∧ Q (.bl (decide (x = .non))) H) te (tC .non)) σ H (.bl b) := ev_is (ev_op h ev_c fun H1 _ Q q => ⟨rfl, q H1 (Ex.refl _)⟩) (by rw [hb])
theorem et_neB {ta tb : TE} {a : Bool} (h1 : Ev ta σ H (.bl a)) (h2 : Ev tb σ H (.bl a)) : EvT (tTest (tOp rNe ta tb)) σ H false := et_is (et_ne h1 h2 rfl) (by rw [decide_eq_true rfl]; rfl)
end
section
variable {P : Program} {w : World} {K : PySem.W.Frag} {mg : Str → Option Value} {base : Heap} {f : Addr} {fd : FuncData}
theorem ok_al0 (F : FnP K "_law_alike" (top 100) [] f fd) (gI : mg "isinstance" = none) (gLi : mg "list" = none) (gT : mg "tuple" = none) (gB : mg "bool" = none) (gN : mg "int" = none) (gS : mg "str" = none) : FnOk P w K mg base CX0 1 f fd ["_law_found", "_law_due"] (spAl 0) := by
  refine F.ok sc_al (fun vs H Q E h => ?_) (fun cdv A outer s H vs Q E hr h => ?_)
  · obtain ⟨v, u, rfl, _⟩ := h
    rfl
  · obtain ⟨v, u, rfl, hf, k⟩ := h
    have hf : Flk v u := hf
    refine ⟨_, pss_cons (by
        exact ps_if (PW.pt (pw_or (pt_cmpR op_isN (pv 1) pe_non (nomark _)) (pw_or1 (pt_cmpR op_isN (pv 0) pe_non (nomark _))))) (pss_one (ps_ret (pe_and (pe_cmpR op_isN (pv 0) pe_non (nomark _)) (pe_one (pe_cmpR op_isN (pv 1) pe_non (nomark _)))))) pss_nil) <| pss_cons (by
        exact ps_if (PW.pt (pw_or (pt_val (by
          exact pe_callB call_isi (by rfl) gI boot_isinstance (pa_cons (pv 1) (pa_cons (pe_bltn (v := .ty "list") (by rfl) gLi boot_list rfl) pa_nil))) (by intro _; rfl)) (pw_or1 (pt_val (by
          exact pe_callB call_isi (by rfl) gI boot_isinstance (pa_cons (pv 1) (pa_cons (pe_bltn (v := .ty "tuple") (by rfl) gT boot_tuple rfl) pa_nil))) (by intro _; rfl))))) pss_no pss_nil) <| pss_cons (by
        exact ps_if (PW.pt (pw_or (pt_cmpR op_ne (by
          exact pe_callB call_isi (by rfl) gI boot_isinstance (pa_cons (pv 1) (pa_cons (pe_bltn (v := .ty "bool") (by rfl) gB boot_bool rfl) pa_nil))) (by
          exact pe_callB call_isi (by rfl) gI boot_isinstance (pa_cons (pv 0) (pa_cons (pe_bltn (v := .ty "bool") (by rfl) gB boot_bool rfl) pa_nil))) (nomark _)) (pw_or1 (pt_cmpR op_ne (by
          exact pe_callB call_isi (by rfl) gI boot_isinstance (pa_cons (pv 1) (pa_cons (pe_bltn (v := .ty "int") (by rfl) gN boot_int rfl) pa_nil))) (by
          exact pe_callB call_isi (by rfl) gI boot_isinstance (pa_cons (pv 0) (pa_cons (pe_bltn (v := .ty "int") (by rfl) gN boot_int rfl) pa_nil))) (nomark _))))) pss_no pss_nil) <| pss_one (by
        exact ps_ret (pe_and (pe_cmpR op_eq (by
          exact pe_callB call_isi (by rfl) gI boot_isinstance (pa_cons (pv 1) (pa_cons (pe_bltn (v := .ty "str") (by rfl) gS boot_str rfl) pa_nil))) (by
          exact pe_callB call_isi (by rfl) gI boot_isinstance (pa_cons (pv 0) (pa_cons (pe_bltn (v := .ty "str") (by rfl) gS boot_str rfl) pa_nil))) (nomark _)) (pe_one (pe_cmpR op_eq (pv 0) (pv 1) (nomark _))))), ?_⟩
    rcases hf with ⟨rfl, rfl⟩ | ⟨i, rfl, rfl⟩ | ⟨z, rfl, rfl⟩
    · refine q_yes (et_orT (et_isNn (v := .non) (ev_var rfl) rfl)) fun H1 e1 => ?_
      exact s_ret (v := .bl (true && true)) (ev_andV (ev_isNn (v := .non) (ev_var rfl) rfl) fun _ => ev_isNn (v := .non) (ev_var rfl) rfl) fun H2 e2 => k.go (e1.trans e2)
    · have ty : ∀ H1, Ex H H1 → TyX K H1 (.int i) (.type "int") := fun H1 _ => .base (.int i)
      refine q_no (et_orF (et_isNn (v := .int i) (ev_var rfl) rfl) (et_isNn (v := .int i) (ev_var rfl) rfl)) fun H1 e1 => ?_
      have ty1 : ∀ {H1} H2, Ex H1 H2 → TyX K H2 (.int i) (.type "int") := fun H2 _ => .base (.int i)
      refine q_no (et_orF (et_B (ev_isi (v := .int i) (ev_var rfl) ty1 (by decide +kernel))) (et_B (ev_isi (v := .int i) (ev_var rfl) ty1 (by decide +kernel)))) fun H2 e2 => ?_
      refine q_no (et_orF (et_neB (ev_isi (v := .int i) (r := false) (ev_var rfl) ty1 (by decide +kernel)) (ev_isi (v := .int i) (ev_var rfl) ty1 (by decide +kernel))) (et_neB (ev_isi (v := .int i) (r := true) (ev_var rfl) ty1 (by decide +kernel)) (ev_isi (v := .int i) (ev_var rfl) ty1 (by decide +kernel)))) fun H3 e3 => ?_
      refine s_ret (v := .bl (true && true)) (ev_andV (ev_is (ev_op (ev_isi (v := .int i) (r := false) (ev_var rfl) ty1 (by decide +kernel)) (ev_isi (v := .int i) (r := false) (ev_var rfl) ty1 (by decide +kernel)) (rv_eq rfl)) rfl) fun _ => ev_is (ev_op (x := .int i) (y := .int i) (ev_var rfl) (ev_var rfl) (rv_eq rfl)) (by rw [decide_eq_true rfl])) fun H4 e4 => k.go (((e1.trans e2).trans e3).trans e4)
    · have ty1 : ∀ {H1} H2, Ex H1 H2 → TyX K H2 (.str z) (.type "str") := fun H2 _ => .base (.str z)
      refine q_no (et_orF (et_isNn (v := .str z) (ev_var rfl) rfl) (et_isNn (v := .str z) (ev_var rfl) rfl)) fun H1 e1 => ?_
      refine q_no (et_orF (et_B (ev_isi (v := .str z) (ev_var rfl) ty1 (by decide +kernel))) (et_B (ev_isi (v := .str z) (ev_var rfl) ty1 (by decide +kernel)))) fun H2 e2 => ?_
      refine q_no (et_orF (et_neB (ev_isi (v := .str z) (r := false) (ev_var rfl) ty1 (by decide +kernel)) (ev_isi (v := .str z) (ev_var rfl) ty1 (by decide +kernel))) (et_neB (ev_isi (v := .str z) (r := false) (ev_var rfl) ty1 (by decide +kernel)) (ev_isi (v := .str z) (ev_var rfl) ty1 (by decide +kernel)))) fun H3 e3 => ?_
      refine s_ret (v := .bl (true && true)) (ev_andV (ev_is (ev_op (ev_isi (v := .str z) (r := true) (ev_var rfl) ty1 (by decide +kernel)) (ev_isi (v := .str z) (r := true) (ev_var rfl) ty1 (by decide +kernel)) (rv_eq rfl)) rfl) fun _ => ev_is (ev_op (x := .str z) (y := .str z) (ev_var rfl) (ev_var rfl) (rv_eq rfl)) (by rw [decide_eq_true rfl])) fun H4 e4 => k.go (((e1.trans e2).trans e3).trans e4)
end
end Cp

namespace Cp
open PySem PySem.Spec PyProof.Rows L2 Evl GN GZ
section
variable {P : Program} {w : World} {K : PySem.W.Frag} {mg : Str → Option Value} {base : Heap} {f : Addr} {fd : FuncData}
theorem ok_al1 {n k0 : Nat} (F : FnP K "_law_alike" (top 100) [] f fd) (gI : mg "isinstance" = none) (gLi : mg "list" = none) (gT : mg "tuple" = none) (gB : mg "bool" = none) (gN : mg "int" = none) (gS : mg "str" = none) (gL : mg "len" = none) (gA : mg "all" = none) (gR : mg "range" = none) (gM : mg "_law_alike" = some (.ref f)) (kM : PySem.W.keepIn K (.ref f) = true) (bM : Binds K fd ["_law_found", "_law_due"] []) (G : FnOk P w K mg base CX0 k0 f fd ["_law_found", "_law_due"] (spAl n)) : FnOk P w K mg base CX0 (k0 + 1) f fd ["_law_found", "_law_due"] (spAl (n + 1)) := by
  refine F.ok sc_al (fun vs H Q E h => ?_) (fun cdv A outer s H vs Q E hr h => ?_)
  · obtain ⟨v, u, rfl, _⟩ := h
    rfl
  · obtain ⟨v, u, rfl, hf, k⟩ := h
    refine ⟨_, pss_cons (by
        exact ps_if (PW.pt (pw_or (pt_cmpR op_isN (pv 1) pe_non (nomark _)) (pw_or1 (pt_cmpR op_isN (pv 0) pe_non (nomark _))))) (pss_one (ps_ret (pe_and (pe_cmpR op_isN (pv 0) pe_non (nomark _)) (pe_one (pe_cmpR op_isN (pv 1) pe_non (nomark _)))))) pss_nil) <| pss_cons (by
        exact ps_if (PW.pt (pw_or (pt_val (by
          exact pe_callB call_isi (by rfl) gI boot_isinstance (pa_cons (pv 1) (pa_cons (pe_bltn (v := .ty "list") (by rfl) gLi boot_list rfl) pa_nil))) (by intro _; rfl)) (pw_or1 (pt_val (by
          exact pe_callB call_isi (by rfl) gI boot_isinstance (pa_cons (pv 1) (pa_cons (pe_bltn (v := .ty "tuple") (by rfl) gT boot_tuple rfl) pa_nil))) (by intro _; rfl))))) (pss_cons (by
          exact ps_if (PW.pt (pw_or (pt_cmpR op_ne (by
            exact pe_callB call_isi (by rfl) gI boot_isinstance (pa_cons (pv 1) (pa_cons (pe_bltn (v := .ty "list") (by rfl) gLi boot_list rfl) pa_nil))) (by
            exact pe_callB call_isi (by rfl) gI boot_isinstance (pa_cons (pv 0) (pa_cons (pe_bltn (v := .ty "list") (by rfl) gLi boot_list rfl) pa_nil))) (nomark _)) (pw_or1 (pt_cmpR op_ne (by
            exact pe_callB call_isi (by rfl) gI boot_isinstance (pa_cons (pv 1) (pa_cons (pe_bltn (v := .ty "tuple") (by rfl) gT boot_tuple rfl) pa_nil))) (by
            exact pe_callB call_isi (by rfl) gI boot_isinstance (pa_cons (pv 0) (pa_cons (pe_bltn (v := .ty "tuple") (by rfl) gT boot_tuple rfl) pa_nil))) (nomark _))))) pss_no pss_nil) <| pss_one (by
          refine ps_ret (pe_and (pe_cmpR op_eq (pe_callB call_len_seq (by rfl) gL PySem.boot_len (pa_cons (pv 0) pa_nil)) (pe_callB call_len_seq (by rfl) gL PySem.boot_len (pa_cons (pv 1) pa_nil)) (nomark _)) (pe_one (pe_callB (cr_all rfl) (by rfl) gA boot_all (pa_cons (by
            exact pe_lc (own := [("_law_k", 2)]) (g := gName 2) (tt := tYes) (te := tCall (spAl n) [] E0 (tCons (tOp (rIx K) (tVar 0) (tVar 2)) (tCons (tOp (rIx K) (tVar 1) (tVar 2)) tNil))) rfl sc_al.nd (pi_range1 (by rfl) gR (pa_cons (pe_callB call_len_seq (by rfl) gL PySem.boot_len (pa_cons (pv 1) pa_nil)) pa_nil)) (blkOk_by (by kernel_rfl)) (fun _ _ _ _ _ => pg_name (i := 2) sc_al.nd rfl (Or.inl rfl)) (fun _ _ _ _ _ => pts_nil)
              (fun _ _ _ _ _ => by exact pe_call G hr (by rfl) gM kM bM .nil pass0 (pa_cons (pe_ix ix_seq (pv 0) (pv 2) (fun _ _ => rfl)) (pa_cons (pe_ix ix_seq (pv 1) (pv 2) (fun _ _ => rfl)) pa_nil)))) pa_nil)))))) pss_nil) <| pss_cons (by
        exact ps_if (PW.pt (pw_or (pt_cmpR op_ne (by
          exact pe_callB call_isi (by rfl) gI boot_isinstance (pa_cons (pv 1) (pa_cons (pe_bltn (v := .ty "bool") (by rfl) gB boot_bool rfl) pa_nil))) (by
          exact pe_callB call_isi (by rfl) gI boot_isinstance (pa_cons (pv 0) (pa_cons (pe_bltn (v := .ty "bool") (by rfl) gB boot_bool rfl) pa_nil))) (nomark _)) (pw_or1 (pt_cmpR op_ne (by
          exact pe_callB call_isi (by rfl) gI boot_isinstance (pa_cons (pv 1) (pa_cons (pe_bltn (v := .ty "int") (by rfl) gN boot_int rfl) pa_nil))) (by
          exact pe_callB call_isi (by rfl) gI boot_isinstance (pa_cons (pv 0) (pa_cons (pe_bltn (v := .ty "int") (by rfl) gN boot_int rfl) pa_nil))) (nomark _))))) pss_no pss_nil) <| pss_one (by
        exact ps_ret (pe_and (pe_cmpR op_eq (by
          exact pe_callB call_isi (by rfl) gI boot_isinstance (pa_cons (pv 1) (pa_cons (pe_bltn (v := .ty "str") (by rfl) gS boot_str rfl) pa_nil))) (by
          exact pe_callB call_isi (by rfl) gI boot_isinstance (pa_cons (pv 0) (pa_cons (pe_bltn (v := .ty "str") (by rfl) gS boot_str rfl) pa_nil))) (nomark _)) (pe_one (pe_cmpR op_eq (pv 0) (pv 1) (nomark _))))), ?_⟩
    rcases hf with (⟨rfl, rfl⟩ | ⟨i, rfl, rfl⟩ | ⟨z, rfl, rfl⟩) | ⟨p, q, xs, ys, rfl, rfl, hpq, hlen, hl100, hel⟩
    · refine q_yes (et_orT (et_isNn (v := .non) (ev_var rfl) rfl)) fun H1 e1 => ?_
      exact s_ret (v := .bl (true && true)) (ev_andV (ev_isNn (v := .non) (ev_var rfl) rfl) fun _ => ev_isNn (v := .non) (ev_var rfl) rfl) fun H2 e2 => k.go (e1.trans e2)
    · have ty : ∀ H1, Ex H H1 → TyX K H1 (.int i) (.type "int") := fun H1 _ => .base (.int i)
      refine q_no (et_orF (et_isNn (v := .int i) (ev_var rfl) rfl) (et_isNn (v := .int i) (ev_var rfl) rfl)) fun H1 e1 => ?_
      have ty1 : ∀ {H1} H2, Ex H1 H2 → TyX K H2 (.int i) (.type "int") := fun H2 _ => .base (.int i)
      refine q_no (et_orF (et_B (ev_isi (v := .int i) (ev_var rfl) ty1 (by decide +kernel))) (et_B (ev_isi (v := .int i) (ev_var rfl) ty1 (by decide +kernel)))) fun H2 e2 => ?_
      refine q_no (et_orF (et_neB (ev_isi (v := .int i) (r := false) (ev_var rfl) ty1 (by decide +kernel)) (ev_isi (v := .int i) (ev_var rfl) ty1 (by decide +kernel))) (et_neB (ev_isi (v := .int i) (r := true) (ev_var rfl) ty1 (by decide +kernel)) (ev_isi (v := .int i) (ev_var rfl) ty1 (by decide +kernel)))) fun H3 e3 => ?_
      refine s_ret (v := .bl (true && true)) (ev_andV (ev_is (ev_op (ev_isi (v := .int i) (r := false) (ev_var rfl) ty1 (by decide +kernel)) (ev_isi (v := .int i) (r := false) (ev_var rfl) ty1 (by decide +kernel)) (rv_eq rfl)) rfl) fun _ => ev_is (ev_op (x := .int i) (y := .int i) (ev_var rfl) (ev_var rfl) (rv_eq rfl)) (by rw [decide_eq_true rfl])) fun H4 e4 => k.go (((e1.trans e2).trans e3).trans e4)
    · have ty1 : ∀ {H1} H2, Ex H1 H2 → TyX K H2 (.str z) (.type "str") := fun H2 _ => .base (.str z)
      refine q_no (et_orF (et_isNn (v := .str z) (ev_var rfl) rfl) (et_isNn (v := .str z) (ev_var rfl) rfl)) fun H1 e1 => ?_
      refine q_no (et_orF (et_B (ev_isi (v := .str z) (ev_var rfl) ty1 (by decide +kernel))) (et_B (ev_isi (v := .str z) (ev_var rfl) ty1 (by decide +kernel)))) fun H2 e2 => ?_
      refine q_no (et_orF (et_neB (ev_isi (v := .str z) (r := false) (ev_var rfl) ty1 (by decide +kernel)) (ev_isi (v := .str z) (ev_var rfl) ty1 (by decide +kernel))) (et_neB (ev_isi (v := .str z) (r := false) (ev_var rfl) ty1 (by decide +kernel)) (ev_isi (v := .str z) (ev_var rfl) ty1 (by decide +kernel)))) fun H3 e3 => ?_
      refine s_ret (v := .bl (true && true)) (ev_andV (ev_is (ev_op (ev_isi (v := .str z) (r := true) (ev_var rfl) ty1 (by decide +kernel)) (ev_isi (v := .str z) (r := true) (ev_var rfl) ty1 (by decide +kernel)) (rv_eq rfl)) rfl) fun _ => ev_is (ev_op (x := .str z) (y := .str z) (ev_var rfl) (ev_var rfl) (rv_eq rfl)) (by rw [decide_eq_true rfl])) fun H4 e4 => k.go (((e1.trans e2).trans e3).trans e4)
    · have at_ : ∀ {te tk : TE} {σ : L2.St} {H1 : Hp} {r : Addr} {zs : List V} {x : V} {i : Nat}, (SqL K H1 r zs ∨ SqT K H1 r zs) → zs[i]? = some x → Ev te σ H1 (.ref r) → Ev tk σ H1 (.int (i : Int)) → Ev (tOp (rIx K) te tk) σ H1 x := fun {te tk σ H1 r zs x i} hz hx h1 h2 => ev_op h1 h2 (hz.elim (fun z => fun H2 e Q q => .inl (rv_ixL z (atI_nat hx) H2 e Q q)) (fun z => fun H2 e Q q => .inr (.inl (rv_ixT z (atI_nat hx) H2 e Q q))))
      have fin : ∀ H1, Ex H H1 → (∀ H2, Ex H1 H2 → (SqL K H2 p xs ∨ SqT K H2 p xs) ∧ (SqL K H2 q ys ∨ SqT K H2 q ys)) → tRet (tAndV (tOp rEq (tCB (rLenS K) (tCons (tVar 0) tNil)) (tCB (rLenS K) (tCons (tVar 1) tNil))) (tCB (rAll K) (tCons (tLc (iRng1 (tCons (tCB (rLenS K) (tCons (tVar 1) tNil)) tNil)) (gName 2) tYes (tCall (spAl n) [] E0 (tCons (tOp (rIx K) (tVar 0) (tVar 2)) (tCons (tOp (rIx K) (tVar 1) (tVar 2)) tNil))) [2]) tNil))) { nx := fun _ H' => Q .non H', rt := Q } [some (V.ref p), some (.ref q), none] H1 := fun H1 e1 hs => by
        refine s_ret (v := .bl (true && true)) (ev_andV (ev_is (ev_op (x := .int xs.length) (y := .int ys.length) (ev_lenQ (ev_var rfl) (hs H1 (Ex.refl _)).1) (ev_lenQ (ev_var rfl) (hs H1 (Ex.refl _)).2) (rv_eq rfl)) (by rw [hlen, decide_eq_true rfl])) fun _ => ?_) fun H4 e4 => k.go (e1.trans e4)
        have el := el_lcR1 (σ := [some (V.ref p), some (.ref q), none]) (H := H1) (j := 2) (vs := [2]) (t := tYes) (te := tCall (spAl n) [] E0 (tCons (tOp (rIx K) (tVar 0) (tVar 2)) (tCons (tOp (rIx K) (tVar 1) (tVar 2)) tNil))) (n := (ys.length : Int)) (ta := tCons (tCB (rLenS K) (tCons (tVar 1) tNil)) tNil) (fun _ => true) (fun _ => .bl true) (ea_cons (ev_lenQ (ev_var rfl) (hs H1 (Ex.refl _)).2) ea_nil) ⟨by omega, by omega⟩ (fun _ => rfl) (fun _ _ _ _ => et_yes) fun i H2 e2 hi _ => by
          have hiy : i < ys.length := by omega
          have hix : i < xs.length := by omega
          refine ev_call (ea_cons (at_ (i := i) (hs H2 e2).1 (List.getElem?_eq_getElem hix) (ev_var rfl) (ev_var rfl)) (ea_cons (at_ (i := i) (hs H2 e2).2 (List.getElem?_eq_getElem hiy) (ev_var rfl) (ev_var rfl)) ea_nil)) (RetV.call fun H3 e3 Q E q => ⟨_, _, rfl, (hel i _ _ (List.getElem?_eq_getElem hix) (List.getElem?_eq_getElem hiy)).ex ((e1.trans e2).trans e3), q⟩)
        have hg : given ((ys.length : Int)).toNat (fun _ => true) (fun _ => V.bl true) = (((List.range ((ys.length : Int)).toNat).filter fun _ => true).map fun _ => true).map V.bl := by
          unfold given
          rw [List.map_map]
          rfl
        rw [hg] at el
        refine ev_is (ev_all el) ?_
        congr 1
        simp
      rcases hpq with ⟨hp, hq⟩ | ⟨hp, hq⟩
      · have ty1 : ∀ {H1} H2, Ex H H1 → Ex H1 H2 → TyX K H2 (.ref p) (.type "list") := fun H2 e1 e2 => .base (.lst (e2 _ _ (e1 _ _ hp)))
        have ty2 : ∀ {H1} H2, Ex H H1 → Ex H1 H2 → TyX K H2 (.ref q) (.type "list") := fun H2 e1 e2 => .base (.lst (e2 _ _ (e1 _ _ hq)))
        refine q_no (et_orF (et_isNn (v := .ref q) (ev_var rfl) rfl) (et_isNn (v := .ref p) (ev_var rfl) rfl)) fun H1 e1 => ?_
        refine q_yes (et_orT (et_B (ev_isi (v := .ref q) (ev_var rfl) (fun H2 e2 => ty2 H2 e1 e2) (by decide +kernel)))) fun H2 e2 => ?_
        have e02 := e1.trans e2
        refine q_no (et_orF (et_neB (ev_isi (v := .ref q) (r := true) (ev_var rfl) (fun H2 e2 => ty2 H2 e02 e2) (by decide +kernel)) (ev_isi (v := .ref p) (ev_var rfl) (fun H2 e2 => ty1 H2 e02 e2) (by decide +kernel))) (et_neB (ev_isi (v := .ref q) (r := false) (ev_var rfl) (fun H2 e2 => ty2 H2 e02 e2) (by decide +kernel)) (ev_isi (v := .ref p) (ev_var rfl) (fun H2 e2 => ty1 H2 e02 e2) (by decide +kernel)))) fun H3 e3 => ?_
        exact fin H3 (e02.trans e3) fun H4 e4 => ⟨.inl (sq_of (e4 _ _ ((e02.trans e3) _ _ hp))), .inl (sq_of (e4 _ _ ((e02.trans e3) _ _ hq)))⟩
      · have ty1 : ∀ {H1} H2, Ex H H1 → Ex H1 H2 → TyX K H2 (.ref p) (.type "tuple") := fun H2 e1 e2 => .base (.tup (e2 _ _ (e1 _ _ hp)))
        have ty2 : ∀ {H1} H2, Ex H H1 → Ex H1 H2 → TyX K H2 (.ref q) (.type "tuple") := fun H2 e1 e2 => .base (.tup (e2 _ _ (e1 _ _ hq)))
        refine q_no (et_orF (et_isNn (v := .ref q) (ev_var rfl) rfl) (et_isNn (v := .ref p) (ev_var rfl) rfl)) fun H1 e1 => ?_
        refine q_yes (et_orF (et_B (ev_isi (v := .ref q) (ev_var rfl) (fun H2 e2 => ty2 H2 e1 e2) (by decide +kernel))) (et_B (ev_isi (v := .ref q) (ev_var rfl) (fun H2 e2 => ty2 H2 e1 e2) (by decide +kernel)))) fun H2 e2 => ?_
        have e02 := e1.trans e2
        refine q_no (et_orF (et_neB (ev_isi (v := .ref q) (r := false) (ev_var rfl) (fun H2 e2 => ty2 H2 e02 e2) (by decide +kernel)) (ev_isi (v := .ref p) (ev_var rfl) (fun H2 e2 => ty1 H2 e02 e2) (by decide +kernel))) (et_neB (ev_isi (v := .ref q) (r := true) (ev_var rfl) (fun H2 e2 => ty2 H2 e02 e2) (by decide +kernel)) (ev_isi (v := .ref p) (ev_var rfl) (fun H2 e2 => ty1 H2 e02 e2) (by decide +kernel)))) fun H3 e3 => ?_
        exact fin H3 (e02.trans e3) fun H4 e4 => ⟨.inr (st_of (e4 _ _ ((e02.trans e3) _ _ hp))), .inr (st_of (e4 _ _ ((e02.trans e3) _ _ hq)))⟩
end
end Cp

namespace Cp
open PySem PySem.Spec PyProof.Rows L2 Evl GN GZ GH
/-! ### _law_fields of a Full -/
theorem sc_flds : FnScope ["_law_e"] ["_law_e"] (defScope (top 102)) := ⟨rfl, rfl, rfl, by decide +kernel, rfl, by decide +kernel, by decide +kernel⟩
def noF (v : V) : List V := [.str "no", .str "Full", v]
def noP (v : V) : List V := [.str "no", .str "NoProgram", v]
def spFlds (CF : Addr) : Addr → Addr → Addr → Hp → VK → Prop := fun _ D dd H Q => D = CF ∧ ∃ v, H dd = some (.xd (fFu v)) ∧ ∀ T H2, H T = none → Ex H H2 → H2 T = some (.tup (noF v)) → Q (.ref T) H2
section
variable {K : PySem.W.Frag} {σ : L2.St} {H : Hp} {a D dd c : Addr} {b : Bool} {fs : List (Str × V)} {v : V} {g : Str} {i : Nat}
theorem et_isP (h0 : σ[0]? = some (some (.ref a))) (hk : PySem.W.kitOne K (.ref D) (.ref c) = some b) (hd : H dd = some (.xd fs)) : EvT (tB (tCB (rIsP K D a dd) (tCons (tVar 0) (tCons (tC (.ref c)) tNil)))) σ H b := fun H1 e Q q => ⟨.ref a, h0, c, b, fs, rfl, hk, e dd _ hd, b, rfl, q H1 (Ex.refl _)⟩
theorem ev_xp (h0 : σ[i]? = some (some (.ref a))) (hd : H dd = some (.xd fs)) (hl : fs.lookup g = some v) : Ev (tXp a dd g (tVar i)) σ H v := fun H1 e Q q => ⟨.ref a, h0, rfl, fs, v, e dd _ hd, hl, q H1 (Ex.refl _)⟩
end
theorem fu_tag (v : V) : (fFu v).lookup ("tag" : Str) = some (.str "Full") := rfl
theorem fu_bound (v : V) : (fFu v).lookup ("bound" : Str) = some v := by
  have e : (("bound" : Str) == "tag") = false := by decide +kernel
  unfold fFu
  simp [List.lookup, e]
theorem np_tag (v : V) : (fNp v).lookup ("tag" : Str) = some (.str "NoProgram") := rfl
theorem np_name (v : V) : (fNp v).lookup ("name" : Str) = some v := by
  have e : (("name" : Str) == "tag") = false := by decide +kernel
  unfold fNp
  simp [List.lookup, e]
/-- the nine classes that a Full is none of -/
structure Nine (K : PySem.W.Frag) (mg : Str → Option Value) (CF : Addr) where
  (c1 c2 c3 c4 c5 c6 c7 c8 c9 : Addr)
  g1 : mg "BadKind" = some (.ref c1)
  g2 : mg "BadProgram" = some (.ref c2)
  g3 : mg "BadMark" = some (.ref c3)
  g4 : mg "BadText" = some (.ref c4)
  g5 : mg "BadField" = some (.ref c5)
  g6 : mg "BadCell" = some (.ref c6)
  g7 : mg "BadRule" = some (.ref c7)
  g8 : mg "Barren" = some (.ref c8)
  g9 : mg "Stopped" = some (.ref c9)
  k1 : PySem.W.kitOne K (.ref CF) (.ref c1) = some false
  k2 : PySem.W.kitOne K (.ref CF) (.ref c2) = some false
  k3 : PySem.W.kitOne K (.ref CF) (.ref c3) = some false
  k4 : PySem.W.kitOne K (.ref CF) (.ref c4) = some false
  k5 : PySem.W.kitOne K (.ref CF) (.ref c5) = some false
  k6 : PySem.W.kitOne K (.ref CF) (.ref c6) = some false
  k7 : PySem.W.kitOne K (.ref CF) (.ref c7) = some false
  k8 : PySem.W.kitOne K (.ref CF) (.ref c8) = some false
  k9 : PySem.W.kitOne K (.ref CF) (.ref c9) = some false
section
variable {P : Program} {w : World} {K : PySem.W.Frag} {mg : Str → Option Value} {base : Heap} {f : Addr} {fd : FuncData}
theorem ok_flds {CF : Addr} (F : FnP K "_law_fields" (top 102) [] f fd) (C : XcC K CF) (N : Nine K mg CF) (gI : mg "isinstance" = none) (nt : PySem.W.findIn K (.ref CF) "tag" = some none) (nf : PySem.W.findIn K (.ref CF) "bound" = some none) : FnE P w K mg base 1 f fd ["_law_e"] (spFlds CF) := by
  obtain ⟨oc, od, dV, kV, doc, pm, an, cdv, ct, osl, rfl, lk, hcd, _, _⟩ := F.ex
  refine fn_ofE (k := 0) (N := ["_law_e"]) lk hcd sc_flds fun A outer s H a D dd oe Q hz hv h => ?_
  obtain ⟨rfl, v, hdd, k⟩ := h
  have er : Err (L2H.cxH C8.CX0 P w K mg base ["_law_e"] "_law_fields" (defScope (top 102)) f cdv A outer s H C8.E0 (a, oe)) a oe D dd := ⟨List.mem_cons_self, hz, hv⟩
  refine ⟨_, pss_cons (by
      exact ps_if (pt_val (pe_callB (call_isP er C) (by rfl) gI boot_isinstance (pa_cons (pv 0) (pa_cons (pe_glob (v := .ref N.c1) (by rfl) N.g1 rfl) pa_nil))) (by intro _; rfl)) pss_no pss_nil) <| pss_cons (by
      exact ps_if (pt_val (pe_callB (call_isP er C) (by rfl) gI boot_isinstance (pa_cons (pv 0) (pa_cons (pe_glob (v := .ref N.c2) (by rfl) N.g2 rfl) pa_nil))) (by intro _; rfl)) pss_no pss_nil) <| pss_cons (by
      exact ps_if (pt_val (pe_callB (call_isP er C) (by rfl) gI boot_isinstance (pa_cons (pv 0) (pa_cons (pe_glob (v := .ref N.c3) (by rfl) N.g3 rfl) pa_nil))) (by intro _; rfl)) pss_no pss_nil) <| pss_cons (by
      exact ps_if (pt_val (pe_callB (call_isP er C) (by rfl) gI boot_isinstance (pa_cons (pv 0) (pa_cons (pe_glob (v := .ref N.c4) (by rfl) N.g4 rfl) pa_nil))) (by intro _; rfl)) pss_no pss_nil) <| pss_cons (by
      exact ps_if (pt_val (pe_callB (call_isP er C) (by rfl) gI boot_isinstance (pa_cons (pv 0) (pa_cons (pe_glob (v := .ref N.c5) (by rfl) N.g5 rfl) pa_nil))) (by intro _; rfl)) pss_no pss_nil) <| pss_cons (by
      exact ps_if (pt_val (pe_callB (call_isP er C) (by rfl) gI boot_isinstance (pa_cons (pv 0) (pa_cons (pe_glob (v := .ref N.c6) (by rfl) N.g6 rfl) pa_nil))) (by intro _; rfl)) pss_no pss_nil) <| pss_cons (by
      exact ps_if (pt_val (pe_callB (call_isP er C) (by rfl) gI boot_isinstance (pa_cons (pv 0) (pa_cons (pe_glob (v := .ref N.c7) (by rfl) N.g7 rfl) pa_nil))) (by intro _; rfl)) pss_no pss_nil) <| pss_cons (by
      exact ps_if (pt_val (pe_callB (call_isP er C) (by rfl) gI boot_isinstance (pa_cons (pv 0) (pa_cons (pe_glob (v := .ref N.c8) (by rfl) N.g8 rfl) pa_nil))) (by intro _; rfl)) pss_no pss_nil) <| pss_cons (by
      exact ps_if (pt_val (pe_callB (call_isP er C) (by rfl) gI boot_isinstance (pa_cons (pv 0) (pa_cons (pe_glob (v := .ref N.c9) (by rfl) N.g9 rfl) pa_nil))) (by intro _; rfl)) pss_no pss_nil) <| pss_one (by
      exact ps_ret (pe_tup (pa_cons pe_str (pa_cons (pe_xp er C nt (pv 0)) (pa_cons (pe_xp er C nf (pv 0)) pa_nil))))), ?_⟩
  refine q_no (et_isP rfl N.k1 hdd) fun H1 e1 => ?_
  refine q_no (et_isP rfl N.k2 (e1 _ _ hdd)) fun H2 e => ?_
  have e2 := e1.trans e
  refine q_no (et_isP rfl N.k3 (e2 _ _ hdd)) fun H3 e => ?_
  have e3 := e2.trans e
  refine q_no (et_isP rfl N.k4 (e3 _ _ hdd)) fun H4 e => ?_
  have e4 := e3.trans e
  refine q_no (et_isP rfl N.k5 (e4 _ _ hdd)) fun H5 e => ?_
  have e5 := e4.trans e
  refine q_no (et_isP rfl N.k6 (e5 _ _ hdd)) fun H6 e => ?_
  have e6 := e5.trans e
  refine q_no (et_isP rfl N.k7 (e6 _ _ hdd)) fun H7 e => ?_
  have e7 := e6.trans e
  refine q_no (et_isP rfl N.k8 (e7 _ _ hdd)) fun H8 e => ?_
  have e8 := e7.trans e
  refine q_no (et_isP rfl N.k9 (e8 _ _ hdd)) fun H9 e => ?_
  have e9 := e8.trans e
  have hd9 := e9 _ _ hdd
  refine s_retU (xs := noF v) (eu_tup (ea_cons ev_c (ea_cons (ev_xp rfl hd9 (fu_tag v)) (ea_cons (ev_xp rfl hd9 (fu_bound v)) ea_nil))) (show (3 : Nat) ≤ 100000 by decide)) fun p H10 hp e10 h10 => ?_
  exact k p H10 (fresh_back e9 hp) (e9.trans e10) h10
end
/-! ### _law_tried -/
def Ntr : List Str := ["_law_ask", "_law_e"]
theorem sc_tr : FnScope Ntr ["_law_ask"] (defScope (top 101)) := ⟨rfl, rfl, rfl, by decide +kernel, rfl, by decide +kernel, by decide +kernel⟩
def Mg11 (mg : Str → Option Value) : List Value → Prop
  | [c1, c2, c3, c4, c5, c6, c7, c8, c9, c10, c11] => mg "BadKind" = some c1 ∧ mg "BadProgram" = some c2 ∧ mg "BadMark" = some c3 ∧ mg "BadText" = some c4 ∧ mg "BadField" = some c5 ∧ mg "BadCell" = some c6 ∧ mg "BadRule" = some c7 ∧ mg "Barren" = some c8 ∧ mg "TooWide" = some c9 ∧ mg "Full" = some c10 ∧ mg "Stopped" = some c11
  | _ => False
def Mg3 (mg : Str → Option Value) : List Value → Prop
  | [c1, c2, c3] => mg "NoKind" = some c1 ∧ mg "NoProcedure" = some c2 ∧ mg "NoProgram" = some c3
  | _ => False
/-- what it makes of what the lambda does -/
def TTr (CF CN : Addr) : (XK → Hp → VK → Prop) → Hp → VK → Prop := fun tl H Q =>
  tl (fun cls d H' => (cls = .ref CF ∧ ∃ dd v, d = some dd ∧ H' dd = some (.xd (fFu v)) ∧ ∀ T H2, H' T = none → Ex H' H2 → H2 T = some (.tup (noF v)) → Q (.ref T) H2) ∨ (cls = .ref CN ∧ ∃ dd v, d = some dd ∧ H' dd = some (.xd (fNp v)) ∧ ∀ T H2, H' T = none → Ex H' H2 → H2 T = some (.tup (noP v)) → Q (.ref T) H2)) H
    (fun v H' => ([V.str "told", v] : List V).length ≤ sizeLine ∧ ∀ p, H' p = none → Q (.ref p) (upd H' p (.tup [.str "told", v])))
def tSu1 (CF a : Addr) : Value → Option Addr → TS := fun cls d D σ H => cls = .ref CF ∧ ∃ dd, d = some dd ∧ tRet (tCallE a CF dd (spFlds CF) (tCons (tVar 1) tNil)) D σ H
def tSu2 (CN a : Addr) : Value → Option Addr → TS := fun cls d D σ H => cls = .ref CN ∧ ∃ dd, d = some dd ∧ tRet (tTup (tCons (tC (.str "no")) (tCons (tXp a dd "tag" (tVar 1)) (tCons (tXp a dd "name" (tVar 1)) tNil)))) D σ H
structure TrC (X : Cx) (CF CN : Addr) where
  cs1 : List Value
  cs2 : List Value
  m11 : Mg11 X.mg cs1
  m3 : Mg3 X.mg cs2
  a1 : AtTen X.K (.ref CF) cs1
  a2 : AtNone X.K (.ref CN) cs1
  a3 : AtThree X.K (.ref CN) cs2
  xn : XcC X.K CN
  nt : PySem.W.findIn X.K (.ref CN) "tag" = some none
  nn : PySem.W.findIn X.K (.ref CN) "name" = some none
theorem tr_gives {X : Cx} {g CF CN fF : Addr} {fdF : FuncData} {cdg : Value} {q : Str} {k : Nat} (hr : Room (k + 2) X.A) (T : TrC X CF CN)
    (F : FnE X.prog X.w X.K X.mg X.base 1 fF fdF ["_law_e"] (spFlds CF)) (gF : X.mg "_law_fields" = some (.ref fF)) (kF : PySem.W.keepIn X.K (.ref fF) = true) (bF : Binds X.K fdF ["_law_e"] []) : LamX.GivesTo X Ntr "_law_tried" (defScope (top 101)) g cdg (defBody (top 101)) "_law_ask" q (TTr CF CN) := by
  intro f c' s H Q tl act hc h
  refine ⟨_, pss_one (by
    refine ps_try_two (X := (cxOf C8.CX0 X.prog X.w X.K X.mg X.base Ntr "_law_tried" (defScope (top 101)) g cdg X.A X.stack s H C8.E0).nox) (cs1 := T.cs1) (cs2 := T.cs2) (i := 1) (n := "_law_e")
      (tb := fun W D σ H => ∃ Ech : XK, (∀ cls d σ' H', Ech cls d H' → W cls d σ' H') ∧ σ[0]? = some (some (.ref f)) ∧ H c' = some (LamX.CodeO c' q) ∧ tl Ech H (fun v H' => ([V.str "told", v] : List V).length ≤ sizeLine ∧ ∀ p, H' p = none → D.rt (.ref p) (upd H' p (.tup [.str "told", v]))))
      (ts1 := tSu1 CF) (ts2 := tSu2 CN) rfl rfl sc_tr.nd rfl rfl (fun a pn => ?_) (fun a pn => ?_) (fun W pn xe tk _ => ?_) (fun a oe cls d pn hz hv => ?_) (fun a oe cls d pn hz hv => ?_)
    · have hm := T.m11
      revert hm
      generalize T.cs1 = cs
      intro hm
      match cs, hm with
      | [c1, c2, c3, c4, c5, c6, c7, c8, c9, c10, c11], ⟨h1, h2, h3, h4, h5, h6, h7, h8, h9, h10, h11⟩ => exact (.cons (by rfl) h1 (by decide) (.cons (by rfl) h2 (by decide) (.cons (by rfl) h3 (by decide) (.cons (by rfl) h4 (by decide) (.cons (by rfl) h5 (by decide) (.cons (by rfl) h6 (by decide) (.cons (by rfl) h7 (by decide) (.cons (by rfl) h8 (by decide) (.cons (by rfl) h9 (by decide) (.cons (by rfl) h10 (by decide) (.cons (by rfl) h11 (by decide) .nil)))))))))))
    · have hm := T.m3
      revert hm
      generalize T.cs2 = cs
      intro hm
      match cs, hm with
      | [c1, c2, c3], ⟨h1, h2, h3⟩ => exact (.cons (by rfl) h1 (by decide) (.cons (by rfl) h2 (by decide) (.cons (by rfl) h3 (by decide) .nil)))
    · refine ⟨fun pins s' σ H' D I h' => ?_⟩
      obtain ⟨Ech, hW, h1, h2, h3⟩ := h'
      exact (pss_one (ps_ret (pe_tup (pa_cons pe_str (pa_cons (act W pn xe Ech _ _ tk hW) pa_nil))))).run pins s' σ H' D I ⟨h1, h2, h3⟩
    · refine ⟨fun pins s' σ H' D I h' => ?_⟩
      obtain ⟨rfl, dd, rfl, h'⟩ := h'
      have er : Err ((cxOf C8.CX0 X.prog X.w X.K X.mg X.base Ntr "_law_tried" (defScope (top 101)) g cdg X.A X.stack s H C8.E0).nox.suite a ((a, oe) :: pn)) a oe CF dd := ⟨List.mem_cons_self, hz, hv⟩
      have hrd := (hr.mono (j := 2) (by omega)).deeper (envOfC "_law_tried" (defScope (top 101)) s.heap.objs.size g cdg)
      exact (pss_one (ps_ret (pe_callE er F ⟨hrd.dp, hrd.un⟩ (by rfl) gF kF bF (pa_cons (pv 1) pa_nil)))).run pins s' σ H' D I h'
    · refine ⟨fun pins s' σ H' D I h' => ?_⟩
      obtain ⟨rfl, dd, rfl, h'⟩ := h'
      have er : Err ((cxOf C8.CX0 X.prog X.w X.K X.mg X.base Ntr "_law_tried" (defScope (top 101)) g cdg X.A X.stack s H C8.E0).nox.suite a ((a, oe) :: pn)) a oe CN dd := ⟨List.mem_cons_self, hz, hv⟩
      exact (pss_one (ps_ret (pe_tup (pa_cons pe_str (pa_cons (pe_xp er T.xn T.nt (pv 1)) (pa_cons (pe_xp er T.xn T.nn (pv 1)) pa_nil)))))).run pins s' σ H' D I h'), ?_⟩
  refine ⟨_, fun cls d σ' H' hE => ?_, rfl, hc, h⟩
  rcases hE with ⟨rfl, dd, v, rfl, hdd, hQ⟩ | ⟨rfl, dd, v, rfl, hdd, hQ⟩
  · refine .inl ⟨T.a1, fun a na hlen => ?_⟩
    exact ⟨rfl, dd, rfl, .ref a, List.getElem?_set_self (by rw [hlen]; exact (show 1 < 2 by decide)), rfl, rfl, v, hdd, hQ⟩
  · refine .inr ⟨T.a2, T.a3, fun a na hlen => ?_⟩
    have hs1 : (σ'.set 1 (some (V.ref a)))[1]? = some (some (V.ref a)) := List.getElem?_set_self (by rw [hlen]; exact (show 1 < 2 by decide))
    refine ⟨rfl, dd, rfl, ?_⟩
    exact s_retU (xs := noP v) (eu_tup (ea_cons ev_c (ea_cons (ev_xp hs1 hdd (np_tag v)) (ea_cons (ev_xp hs1 hdd (np_name v)) ea_nil))) (show (3 : Nat) ≤ 100000 by decide)) fun p H2 hp e h2 => hQ p H2 hp e h2
end Cp

namespace Cp
open PySem PySem.Spec PyProof.Rows L2 Evl GN GZ
/-! ### plain facts -/
def leS (a b : Str) : Prop := ltCps b.cps.toList a.cps.toList = false
theorem leS_iff {a b : Str} : leS a b ↔ ¬ b.cps.toList < a.cps.toList := by
  unfold leS
  rw [ltCps_eq]
  exact decide_eq_false_iff_not
theorem leS_anti {a b : Str} (h1 : leS a b) (h2 : leS b a) : a = b := by
  rw [leS_iff] at h1 h2
  have : a.cps.toList = b.cps.toList := List.le_antisymm h1 h2
  cases a
  cases b
  simp only at this
  rw [Array.toList_inj.mp this]
theorem leS_trans {a b c : Str} (h1 : leS a b) (h2 : leS b c) : leS a c := by
  rw [leS_iff] at h1 h2 ⊢
  exact List.le_trans h1 h2
theorem rising_pw : ∀ (l : List Str) (p : Str), risingS p l = true → (p :: l).Pairwise leS
  | [], p, _ => List.pairwise_singleton _ _
  | x :: r, p, h => by
    have h : (!ltCps x.cps.toList p.cps.toList && risingS x r) = true := h
    rw [Bool.and_eq_true, Bool.not_eq_true'] at h
    have ih := rising_pw r x h.2
    refine List.pairwise_cons.mpr ⟨fun y hy => ?_, ih⟩
    rcases List.mem_cons.mp hy with rfl | hy
    · exact h.1
    · exact leS_trans h.1 ((List.pairwise_cons.mp ih).1 y hy)
theorem sorted_pw {l : List Str} (h : sortedS l = true) : l.Pairwise leS := by
  cases l with
  | nil => exact List.Pairwise.nil
  | cons x r => exact rising_pw r x h
theorem sorted_one {l m : List Str} (h1 : sortedS l = true) (h2 : sortedS m = true) (p : l.Perm m) : l = m :=
  List.Perm.eq_of_pairwise (le := leS) (fun a b _ _ x y => leS_anti x y) (sorted_pw h1) (sorted_pw h2) p
/-- the first so many words, the states before -/
def prefs (ws : List Str) (n : Nat) : List (List Str) := (List.range n).map fun i => ws.take i
theorem prefs_succ (ws : List Str) (n : Nat) : prefs ws (n + 1) = prefs ws n ++ [ws.take n] := by
  unfold prefs
  rw [List.range_succ, List.map_append]
  rfl
theorem prefs_len (ws : List Str) (n : Nat) : (prefs ws n).length = n := by
  unfold prefs
  rw [List.length_map, List.length_range]
theorem take_putN {ws : List Str} {i : Nat} {w : Str} (hn : ws.Nodup) (h : ws[i]? = some w) : w ∉ ws.take i ∧ putN (ws.take i) w = ws.take (i + 1) := by
  have hi := (List.getElem?_eq_some_iff.mp h).1
  have e : ws.take (i + 1) = ws.take i ++ [w] := by rw [List.take_add_one, h]; rfl
  have hnot : w ∉ ws.take i := fun hm => by
    have : (ws.take (i + 1)).Nodup := hn.sublist (List.take_sublist _ _)
    rw [e, List.nodup_append] at this
    exact this.2.2 w hm w (by simp) rfl
  refine ⟨hnot, ?_⟩
  unfold putN
  rw [if_neg hnot, e]
theorem mem_putN {m : List Str} {w : Str} (h : w ∈ m) : putN m w = m := by
  unfold putN
  rw [if_pos h]
theorem dropN_head {w : Str} {m : List Str} (h : (w :: m).Nodup) : dropN (w :: m) w = m := by
  unfold dropN
  rw [List.filter_cons_of_neg (by simp)]
  refine List.filter_eq_self.mpr fun y hy => ?_
  have := (List.nodup_cons.mp h).1
  simp only [ne_eq, decide_eq_true_eq]
  exact fun z => this (z ▸ hy)
end Cp

namespace Cp
open PySem PySem.Spec PyProof.Rows L2 Evl GN GZ GH
theorem ShAt.extN {C x : Addr} {H H2 : Hp} {ft : List Addr} {S : Shf} (h : ShAt C H x ft S) (e : LamX.ExtN H H2) : ShAt C H2 x ft S := h.keep (fun y o h _ c => e y o h c) (fun y xs _ h => e y _ h (fun _ z => by cases z))
theorem ShAt.kinds {C x : Addr} {H : Hp} {ft : List Addr} {S : Shf} (h : ShAt C H x ft S) {y : Addr} (hy : y ∈ ft) : (∃ C dx fs, H y = some (.ins C dx fs)) ∨ (∃ ks, H y = some (.dK ks)) ∨ ∃ xs, H y = some (.lst xs) := by
  obtain ⟨dx, a, b, p, l, d, ks, ps, ls, rfl, hx, ha, hb, hab, hp, hl, _⟩ := h
  simp only [List.mem_cons, List.not_mem_nil, or_false] at hy
  rcases hy with rfl | rfl | rfl | rfl
  · exact .inl ⟨_, _, _, hx⟩
  · exact .inr (.inl ⟨_, ha⟩)
  · exact .inr (.inr ⟨_, hp⟩)
  · exact .inr (.inr ⟨_, hl⟩)
/-- the world of the law: the bag b, its list l, the shelf x, lists that stand -/
structure WdL (K : PySem.W.Frag) (C : Addr) (T : List (Addr × Str)) (b l x : Addr) (ft : List Addr) (S : Shf) (xl : List (Addr × List V)) (H : Hp) : Prop where
  bag : BagOk K H b l
  sh : ShAt C H x ft S
  tab : LamX.Tabs T H
  nb : b ∉ ft
  nl : l ∉ ft
  xs : ∀ p ∈ xl, H p.1 = some (.lst p.2) ∧ p.1 ∉ ft ∧ p.1 ≠ b ∧ p.1 ≠ l
def Wd (K : PySem.W.Frag) (C : Addr) (T : List (Addr × Str)) (b l x : Addr) (S : Shf) (xl : List (Addr × List V)) (H : Hp) : Prop := ∃ ft, WdL K C T b l x ft S xl H
/-- tuples stand -/
def Kt (H H2 : Hp) : Prop := ∀ y xs, H y = some (.tup xs) → H2 y = some (.tup xs)
theorem Kt.refl {H : Hp} : Kt H H := fun _ _ h => h
theorem Kt.trans {H H1 H2 : Hp} (a : Kt H H1) (b : Kt H1 H2) : Kt H H2 := fun y xs h => b y xs (a y xs h)
theorem Kt.ofEx {H H1 : Hp} (e : Ex H H1) : Kt H H1 := fun y xs h => e y _ h
theorem Kt.ofN {H H1 : Hp} (e : LamX.ExtN H H1) : Kt H H1 := fun y xs h => e y _ h (fun _ z => by cases z)
theorem Kt.ofTo {C x : Addr} {H H2 : Hp} {ft : List Addr} {S S0 : Shf} (s : ShAt C H x ft S0) (h : ShTo C x ft S H H2) : Kt H H2 := fun y xs hy => by
  obtain ⟨_, _, _, k⟩ := h
  refine k y _ (fun hm => ?_) hy
  rcases s.kinds hm with ⟨_, _, _, z⟩ | ⟨_, z⟩ | ⟨_, z⟩ <;> (rw [hy] at z; cases z)
section
variable {K : PySem.W.Frag} {C : Addr} {T : List (Addr × Str)} {b l x : Addr} {ft : List Addr} {S S2 : Shf} {xl : List (Addr × List V)} {H H2 : Hp}
theorem WdL.ex (w : WdL K C T b l x ft S xl H) (e : Ex H H2) : WdL K C T b l x ft S xl H2 := ⟨w.bag.ex e, w.sh.ex e, w.tab.ext e, w.nb, w.nl, fun p hp => let ⟨a, r⟩ := w.xs p hp; ⟨e _ _ a, r⟩⟩
theorem WdL.extN (w : WdL K C T b l x ft S xl H) (e : LamX.ExtN H H2) (T2 : LamX.Tabs T H2) : WdL K C T b l x ft S xl H2 := by
  refine ⟨?_, w.sh.extN e, T2, w.nb, w.nl, fun p hp => let ⟨a, r⟩ := w.xs p hp; ⟨e _ _ a (fun _ z => by cases z), r⟩⟩
  obtain ⟨ns, i, big, seed, cnt, hb, hl, hlb⟩ := w.bag
  exact ⟨ns, i, big, seed, cnt, e _ _ hb (fun _ z => by cases z), e _ _ hl (fun _ z => by cases z), hlb⟩
theorem tabs_but {T : List (Addr × Str)} {H H' : Hp} {b : Addr} {xs : List V} (t : LamX.Tabs T H) (hb : H b = some (.lst xs)) (x : But b H H') : LamX.Tabs T H' := fun p hp => by
  obtain ⟨ps, h1, h2, h3⟩ := t p hp
  refine ⟨ps, x _ _ (fun z => by rw [z, hb] at h1; cases h1) h1, h2, fun pos cv hc => ?_⟩
  obtain ⟨c, e1, e2⟩ := h3 pos cv hc
  exact ⟨c, e1, x _ _ (fun z => by rw [z, hb] at e2; cases e2) e2⟩
theorem tabs_to (w : ShAt C H x ft S) (t : LamX.Tabs T H) (k : ∀ y o, y ∉ ft → H y = some o → H2 y = some o) : LamX.Tabs T H2 := fun p hp => by
  have no : ∀ {y o}, H y = some o → (∀ C dx fs, o ≠ .ins C dx fs) → (∀ ks, o ≠ .dK ks) → (∀ xs, o ≠ .lst xs) → y ∉ ft := fun {y o} h a b c hm => by
    rcases w.kinds hm with ⟨_, _, _, z⟩ | ⟨_, z⟩ | ⟨_, z⟩ <;> (rw [h] at z; cases z)
    · exact a _ _ _ rfl
    · exact b _ rfl
    · exact c _ rfl
  obtain ⟨ps, h1, h2, h3⟩ := t p hp
  refine ⟨ps, k _ _ (no h1 (fun _ _ _ z => by cases z) (fun _ z => by cases z) (fun _ z => by cases z)) h1, h2, fun pos cv hc => ?_⟩
  obtain ⟨c, e1, e2⟩ := h3 pos cv hc
  exact ⟨c, e1, k _ _ (no e2 (fun _ _ _ z => by cases z) (fun _ z => by cases z) (fun _ z => by cases z)) e2⟩
theorem WdL.bagTo (w : WdL K C T b l x ft S xl H) (bt : But b H H2) (hB : BagOk K H2 b l) : WdL K C T b l x ft S xl H2 := by
  obtain ⟨xs, hb⟩ := w.bag.at_
  exact ⟨hB, w.sh.keep (fun y o h c _ => bt y o (fun z => by rw [z, hb] at h; exact c _ (Option.some.inj h).symm) h) (fun y xs hy h => bt y _ (fun z => w.nb (z ▸ hy)) h), tabs_but w.tab hb bt, w.nb, w.nl, fun p hp => let ⟨a, c, d, d2⟩ := w.xs p hp; ⟨bt _ _ d a, c, d, d2⟩⟩
theorem WdL.op (w : WdL K C T b l x ft S xl H) (h : ShTo C x ft S2 H H2) : Wd K C T b l x S2 xl H2 := by
  obtain ⟨ft2, h1, h2, k⟩ := h
  have no : ∀ {y o}, y ∉ ft → H y = some o → y ∉ ft2 := fun hn hy hm => by
    rcases h2 _ hm with z | z
    · exact hn z
    · rw [hy] at z
      cases z
  obtain ⟨ns, i, big, seed, cnt, hb, hl, hlb⟩ := w.bag
  exact ⟨ft2, ⟨ns, i, big, seed, cnt, k _ _ w.nb hb, k _ _ w.nl hl, hlb⟩, h1, tabs_to w.sh w.tab k, no w.nb hb, no w.nl hl, fun p hp => let ⟨a, c, d⟩ := w.xs p hp; ⟨k _ _ c a, no c a, d⟩⟩
theorem WdL.add {a : Addr} {ys : List V} {H0 : Hp} (w : WdL K C T b l x ft S xl H) (w0 : WdL K C T b l x ft S xl H0) (hn : H0 a = none) (h : H a = some (.lst ys)) : WdL K C T b l x ft S ((a, ys) :: xl) H := by
  refine ⟨w.bag, w.sh, w.tab, w.nb, w.nl, fun p hp => ?_⟩
  rcases List.mem_cons.mp hp with rfl | hp
  · refine ⟨h, fun hm => ?_, fun z => ?_, fun z => ?_⟩
    · rcases w0.sh.kinds hm with ⟨_, _, _, z⟩ | ⟨_, z⟩ | ⟨_, z⟩ <;> (rw [show H0 a = none from hn] at z; cases z)
    · obtain ⟨_, hb⟩ := w0.bag.at_
      rw [← show a = b from z, hn] at hb
      cases hb
    · obtain ⟨_, _, _, _, _, _, hl, _⟩ := w0.bag
      rw [← show a = l from z, hn] at hl
      cases hl
  · exact w.xs p hp
theorem WdL.mutL {a : Addr} {ys zs : List V} (w : WdL K C T b l x ft S ((a, ys) :: xl) H) (hn : ∀ p ∈ xl, p.1 ≠ a) : WdL K C T b l x ft S ((a, zs) :: xl) (upd H a (.lst zs)) := by
  obtain ⟨h1, h2, h3, h4⟩ := w.xs (a, ys) List.mem_cons_self
  have h1 : H a = some (.lst ys) := h1
  have h2 : a ∉ ft := h2
  have k : ∀ y o, H y = some o → (∀ xs, o ≠ .lst xs) → (upd H a (.lst zs)) y = some o := fun y o h c => by
    rw [upd_ne (fun z => by rw [z, h1] at h; exact c _ (Option.some.inj h).symm)]
    exact h
  refine ⟨?_, w.sh.keep (fun y o h c _ => k y o h c) (fun y xs hy h => by rw [upd_ne (fun z : y = a => h2 (by rw [← z]; exact hy))]; exact h), fun p hp => ?_, w.nb, w.nl, fun p hp => ?_⟩
  · obtain ⟨ns, i, big, seed, cnt, hb, hl, hlb⟩ := w.bag
    exact ⟨ns, i, big, seed, cnt, by rw [upd_ne (Ne.symm h3)]; exact hb, by rw [upd_ne (Ne.symm h4)]; exact hl, hlb⟩
  · obtain ⟨ps, q1, q2, q3⟩ := w.tab p hp
    refine ⟨ps, k _ _ q1 (fun _ z => by cases z), q2, fun pos cv hc => ?_⟩
    obtain ⟨c, e1, e2⟩ := q3 pos cv hc
    exact ⟨c, e1, k _ _ e2 (fun _ z => by unfold LamX.CodeO at z; cases z)⟩
  · rcases List.mem_cons.mp hp with rfl | hp
    · exact ⟨upd_same, h2, h3, h4⟩
    · obtain ⟨q1, q2⟩ := w.xs p (List.mem_cons_of_mem _ hp)
      exact ⟨by rw [upd_ne (hn p hp)]; exact q1, q2⟩
theorem WdL.less {xl2 : List (Addr × List V)} (w : WdL K C T b l x ft S xl H) (h : ∀ p ∈ xl2, p ∈ xl) : WdL K C T b l x ft S xl2 H := ⟨w.bag, w.sh, w.tab, w.nb, w.nl, fun p hp => w.xs p (h p hp)⟩
theorem Wd.ex (w : Wd K C T b l x S xl H) (e : Ex H H2) : Wd K C T b l x S xl H2 := let ⟨ft, w⟩ := w; ⟨ft, w.ex e⟩
theorem Wd.bagTo (w : Wd K C T b l x S xl H) (bt : But b H H2) (hB : BagOk K H2 b l) : Wd K C T b l x S xl H2 := let ⟨ft, w⟩ := w; ⟨ft, w.bagTo bt hB⟩
theorem Wd.bag (w : Wd K C T b l x S xl H) : BagOk K H b l := let ⟨_, w⟩ := w; w.bag
theorem Wd.tab (w : Wd K C T b l x S xl H) : LamX.Tabs T H := let ⟨_, w⟩ := w; w.tab
theorem Wd.lst (w : Wd K C T b l x S xl H) {p : Addr × List V} (hp : p ∈ xl) : H p.1 = some (.lst p.2) := let ⟨_, w⟩ := w; (w.xs p hp).1
theorem Wd.ins (w : Wd K C T b l x S xl H) : ∃ dx a b p l d, H x = some (.ins C dx (shF a b 1 S.room p l d)) := let ⟨_, w⟩ := w; w.sh.ins
theorem Wd.less {xl2 : List (Addr × List V)} (w : Wd K C T b l x S xl H) (h : ∀ p ∈ xl2, p ∈ xl) : Wd K C T b l x S xl2 H := let ⟨ft, w⟩ := w; ⟨ft, w.less h⟩
end
/-! ### what the law asks of the shelf by lambdas -/
section
variable {K : PySem.W.Frag} {C CF CN : Addr} {T : List (Addr × Str)} {b l x : Addr} {S : Shf} {xl : List (Addr × List V)} {H : Hp} {σ : L2.St} {i j : Nat} {Q : VK}
theorem lam_set {v : Int} {te : TE} (w : Wd K C T b l x S xl H) (h1 : σ[i]? = some (some (.ref x))) (h2 : ∀ H1, Ev te σ H1 (.int v))
    (kn : ¬ ((S.nm.length : Int) ≤ v ∧ v ≤ 5) → ∀ t H2, H2 t = some (.tup (noF (.int 5))) → Wd K C T b l x S xl H2 → Kt H H2 → Q (.ref t) H2)
    (ky : (S.nm.length : Int) ≤ v ∧ v ≤ 5 → ∀ t H2, H2 t = some (.tup [.str "told", .non]) → Wd K C T b l x ⟨S.nm, v, S.past, S.later⟩ xl H2 → Kt H H2 → Q (.ref t) H2) :
    LamX.tLam T (TTr CF CN) (fun E' => tMeth C "set_space" (spSps C CF) [] E' (tVar i) (tCons te tNil)) σ H Q := by
  obtain ⟨ft, w⟩ := w
  refine ⟨w.tab, fun H1 eN T1 => ?_⟩
  have w0 := w.extN eN T1
  obtain ⟨dx, a, b', p, l', d, hx⟩ := w0.sh.ins
  refine ⟨.ref x, h1, x, dx, _, rfl, hx, rfl, h2 H1 H1 (Ex.refl _) _ fun H3 e3 => ?_⟩
  have w1 := w0.ex e3
  have kt1 := (Kt.ofN eN).trans (Kt.ofEx e3)
  refine ⟨x, ft, S, v, rfl, w1.sh, fun hno dd H' hdd e' => .inl ⟨rfl, dd, .int 5, rfl, hdd, fun t H2 nt e2 ht => kn hno t H2 ht ⟨ft, w1.ex (e'.trans e2)⟩ (kt1.trans (Kt.ofEx (e'.trans e2)))⟩, fun hok H' hto => ⟨sz_of (n := 2) (by decide), fun p hp => ky hok p _ upd_same ((w1.op hto).ex (Ex.new hp)) (kt1.trans ((Kt.ofTo w1.sh hto).trans (Kt.ofEx (Ex.new hp))))⟩⟩
theorem lam_do {t : Addr} {z : Str} {rest : List V} (w : Wd K C T b l x S xl H) (hs : Sml S) (h1 : σ[i]? = some (some (.ref x))) (h2 : σ[j]? = some (some (.ref t))) (ht : H t = some (.tup (.str z :: rest))) (hd : DeedOk z rest) (hat : dAt S.nm z rest)
    (kn : full S rest → ∀ t H2, H2 t = some (.tup (noF (.int S.room))) → Wd K C T b l x S xl H2 → Kt H H2 → Q (.ref t) H2)
    (ky : ¬ full S rest → ∀ t q H2, H2 t = some (.tup [.str "told", .ref q]) → H2 q = some (.lst []) → Wd K C T b l x ⟨nmTo S.nm rest, S.room, S.past ++ [S.nm], []⟩ xl H2 → Kt H H2 → Q (.ref t) H2) :
    LamX.tLam T (TTr CF CN) (fun E' => tMeth C "do" (spDo C CF) [] E' (tVar i) (tCons (tVar j) tNil)) σ H Q := by
  obtain ⟨ft, w⟩ := w
  refine ⟨w.tab, fun H1 eN T1 => ?_⟩
  have w1 := w.extN eN T1
  obtain ⟨dx, a, b', p, l', d, hx⟩ := w1.sh.ins
  refine ⟨.ref x, h1, x, dx, _, rfl, hx, rfl, .ref t, h2, x, ft, S, t, z, rest, rfl, w1.sh, hs, eN _ _ ht (fun _ z => by cases z), hd, hat, fun hf dd H' hdd hto => .inl ⟨rfl, dd, .int S.room, rfl, hdd, fun t H2 nt e2 ht => kn hf t H2 ht ((w1.op hto).ex e2) ((Kt.ofN eN).trans ((Kt.ofTo w1.sh hto).trans (Kt.ofEx e2)))⟩, fun hf q H' nq hq hto => ⟨sz_of (n := 2) (by decide), fun p hp => ky hf p q _ upd_same (Ex.new hp _ _ hq) ((w1.op hto).ex (Ex.new hp)) ((Kt.ofN eN).trans ((Kt.ofTo w1.sh hto).trans (Kt.ofEx (Ex.new hp))))⟩⟩
theorem lam_redo {ms : List (List Str)} {m : List Str} (w : Wd K C T b l x S xl H) (hs : Sml S) (hm : S.later = ms ++ [m]) (h1 : σ[i]? = some (some (.ref x)))
    (ky : ∀ t H2, H2 t = some (.tup [.str "told", .non]) → Wd K C T b l x ⟨m, S.room, S.past ++ [S.nm], ms⟩ xl H2 → Kt H H2 → Q (.ref t) H2) :
    LamX.tLam T (TTr CF CN) (fun E' => tMeth C "redo" (spRed C) [] E' (tVar i) tNil) σ H Q := by
  obtain ⟨ft, w⟩ := w
  refine ⟨w.tab, fun H1 eN T1 => ?_⟩
  have w1 := w.extN eN T1
  obtain ⟨dx, a, b', p, l', d, hx⟩ := w1.sh.ins
  refine ⟨.ref x, h1, x, dx, _, rfl, hx, rfl, x, ft, S, ms, m, rfl, w1.sh, hs, hm, fun H' hto => ⟨sz_of (n := 2) (by decide), fun p hp => ky p _ upd_same ((w1.op hto).ex (Ex.new hp)) ((Kt.ofN eN).trans ((Kt.ofTo w1.sh hto).trans (Kt.ofEx (Ex.new hp))))⟩⟩
theorem lam_no {mth : Str} {nm : Str} (hmth : ∀ a b n r p l d, (shF a b n r p l d).lookup mth = none) (w : Wd K C T b l x S xl H) (hno : nm ∉ S.nm) (h1 : σ[i]? = some (some (.ref x)))
    (kn : ∀ t H2, H2 t = some (.tup (noP (.str nm))) → Wd K C T b l x S xl H2 → Kt H H2 → Q (.ref t) H2) :
    LamX.tLam T (TTr CF CN) (fun E' => tMeth C mth (spTx C CN) [] E' (tVar i) (tCons (tC (.str nm)) tNil)) σ H Q := by
  obtain ⟨ft, w⟩ := w
  refine ⟨w.tab, fun H1 eN T1 => ?_⟩
  have w1 := w.extN eN T1
  obtain ⟨dx, a, b', p, l', d, hx⟩ := w1.sh.ins
  refine ⟨.ref x, h1, x, dx, _, rfl, hx, hmth _ _ _ _ _ _ _, x, ft, S, nm, rfl, w1.sh, hno, fun dd H' hdd e' => .inr ⟨rfl, dd, .str nm, rfl, hdd, fun t H2 nt e2 ht => kn t H2 ht ⟨ft, w1.ex (e'.trans e2)⟩ ((Kt.ofN eN).trans (Kt.ofEx (e'.trans e2)))⟩⟩
end
end Cp

namespace Cp
open PySem PySem.Spec PyProof.Rows L2 Evl GN GZ GH
/-- what the calls of _law_tried ask -/
structure Trd (P : Program) (w : World) (K : PySem.W.Frag) (mg : Str → Option Value) (base : Heap) (CF CN : Addr) where
  fT : Addr
  ocT : Value
  odT : Option Addr
  oslT : Array (Option Value)
  dVT : Value
  kVT : Value
  docT : Value
  pmT : Value
  anT : Option Addr
  cdT : Value
  ctT : Value
  lkT : K.lookup fT = some ⟨ocT, odT, .func (PySem.W.fnOf "_law_tried" "_law_tried" (defArgs (top 101)) (defBody (top 101)) (defScope (top 101)) dVT kVT docT pmT anT cdT ctT), oslT⟩
  hcT : PySem.W.codeIn K cdT "_law_tried" = true
  gT : mg "_law_tried" = some (.ref fT)
  kT : PySem.W.keepIn K (.ref fT) = true
  bT : Binds K (PySem.W.fnOf "_law_tried" "_law_tried" (defArgs (top 101)) (defBody (top 101)) (defScope (top 101)) dVT kVT docT pmT anT cdT ctT) ["_law_ask"] []
  cs1 : List Value
  cs2 : List Value
  m11 : Mg11 mg cs1
  m3 : Mg3 mg cs2
  a1 : AtTen K (.ref CF) cs1
  a2 : AtNone K (.ref CN) cs1
  a3 : AtThree K (.ref CN) cs2
  xn : XcC K CN
  nt : PySem.W.findIn K (.ref CN) "tag" = some none
  nn : PySem.W.findIn K (.ref CN) "name" = some none
  fF : Addr
  fdF : FuncData
  FF : FnE P w K mg base 1 fF fdF ["_law_e"] (spFlds CF)
  gF : mg "_law_fields" = some (.ref fF)
  kF : PySem.W.keepIn K (.ref fF) = true
  bF : Binds K fdF ["_law_e"] []
/-! ### _law_asked -/
def askQ : Str := "_law_asked.<locals>.<lambda>"
def spAsk (K : PySem.W.Frag) (C : Addr) (T : List (Addr × Str)) : Sp := fun vs H Q _ => ∃ b l x S xl t z rest, vs = [.ref x, .ref t] ∧ Wd K C T b l x S xl H ∧ Sml S ∧ H t = some (.tup (.str z :: rest)) ∧ DeedOk z rest ∧ dAt S.nm z rest ∧
  (full S rest → ∀ u H2, H2 u = some (.tup (noF (.int S.room))) → Wd K C T b l x S xl H2 → Kt H H2 → Q (.ref u) H2) ∧
  (¬ full S rest → ∀ u q H2, H2 u = some (.tup [.str "told", .ref q]) → H2 q = some (.lst []) → Wd K C T b l x ⟨nmTo S.nm rest, S.room, S.past ++ [S.nm], []⟩ xl H2 → Kt H H2 → Q (.ref u) H2)
def Nak : List Str := ["_law_shelf", "_law_deed"]
theorem sc_ak : FnScope Nak ["_law_shelf", "_law_deed"] (defScope (top 104)) := ⟨rfl, rfl, rfl, by decide +kernel, rfl, by decide +kernel, by decide +kernel⟩
section
variable {P : Program} {w : World} {K : PySem.W.Frag} {mg : Str → Option Value} {base : Heap} {f : Addr} {C CF CN cA PA : Addr} {oc dV kV doc pm ct : Value} {od an : Option Addr} {osl : Array (Option Value)} {T : List (Addr × Str)}
theorem ok_ask (lk : K.lookup f = some ⟨oc, od, .func (PySem.W.fnOf "_law_asked" "_law_asked" (defArgs (top 104)) (defBody (top 104)) (defScope (top 104)) dV kV doc pm an (.ref cA) ct), osl⟩) (hcd : PySem.W.codeIn K (.ref cA) "_law_asked" = true) (TR : Trd P w K mg base CF CN)
    (TB : LamX.TabB base mg cA PA) (hm : (PA, askQ) ∈ T) (hu : ∀ p ∈ T, p.1 = PA → p.2 = askQ) (sc : SC K C) (DO : Mcal P w K mg base C "do" (CX P w) 13 ["self", "deed"] (spDo C CF)) :
    FnOk P w K mg base CX0 16 f (PySem.W.fnOf "_law_asked" "_law_asked" (defArgs (top 104)) (defBody (top 104)) (defScope (top 104)) dV kV doc pm an (.ref cA) ct) ["_law_shelf", "_law_deed"] (spAsk K C T) := by
  refine fn_of (k := 15) (N := Nak) lk hcd sc_ak (fun vs H Q E h => ?_) (fun A outer s H vs Q E hr h => ?_)
  · obtain ⟨b, l, x, S, xl, t, z, rest, rfl, _⟩ := h
    rfl
  · obtain ⟨b, l, x, S, xl, t, z, rest, rfl, hW, hs, ht, hd, hat, kF, kN⟩ := h
    refine ⟨_, pss_one (by
      refine ps_ret (LamX.pe_lamcall (T := T) (TT := TTr CF CN) (k := 13) (t := fun E' => tMeth C "do" (spDo C CF) [] E' (tVar 0) (tCons (tVar 1) tNil)) (by rfl) TR.gT TR.kT TR.lkT TR.hcT TR.bT sc_tr rfl (Or.inl rfl) (tr_gives hr ⟨TR.cs1, TR.cs2, TR.m11, TR.m3, TR.a1, TR.a2, TR.a3, TR.xn, TR.nt, TR.nn⟩ TR.FF TR.gF TR.kF TR.bF) TB rfl hm hu hr (LamX.lamS_by (by kernel_rfl)) rfl (fun _ _ _ _ _ => rfl) (fun A' outer' s' H' E' f' c' hr' => by
        exact pe_meth (pv 0) sc.cls DO.m DO.G hr' DO.b .nil (passes_call (takes_of rfl rfl rfl rfl) fun _ _ _ _ h => h) (pa_cons (pv 1) pa_nil)))), ?_⟩
    exact lam_do hW hs rfl rfl ht hd hat kF kN
end
end Cp

namespace Cp
open PySem PySem.Spec PyProof.Rows L2 Evl GN GZ GH
/-! ### sorted -/
def leB (a b : Str) : Bool := !ltCps b.cps.toList a.cps.toList
theorem leB_iff {a b : Str} : leB a b = true ↔ leS a b := by
  unfold leB leS
  exact Bool.not_eq_true' _ |>.to_iff
def srtS (l : List Str) : List Str := l.mergeSort leB
theorem srt_perm (l : List Str) : (srtS l).Perm l := List.mergeSort_perm l leB
theorem srt_sorted (l : List Str) : sortedS (srtS l) = true := by
  refine sortedS_of_pairwise _ ?_
  have h := List.pairwise_mergeSort (le := leB) (fun a b c h1 h2 => leB_iff.mpr (leS_trans (leB_iff.mp h1) (leB_iff.mp h2))) (fun a b => by
    rw [Bool.or_eq_true, leB_iff, leB_iff, leS_iff, leS_iff]
    exact List.le_total _ _) l
  exact h.imp fun h => leB_iff.mp h
theorem srt_eq {l ys : List Str} (p : ys.Perm l) (h : sortedS ys = true) : ys = srtS l := sorted_one h (srt_sorted l) (p.trans (srt_perm l).symm)
section
variable {K : PySem.W.Frag} {C CF CN : Addr} {T : List (Addr × Str)} {b l x : Addr} {S : Shf} {xl : List (Addr × List V)} {H : Hp} {σ : L2.St} {i j : Nat} {Q : VK} {D : Ends} {te : TE}
theorem el_sorted {zs : List Str} (h : EvL te σ H (zs.map V.str)) (hz : zs.length < 64) : EvL (tCB (rSortedS K) (tCons te tNil)) σ H ((srtS zs).map V.str) := fun H1 e Q q =>
  h H1 e _ fun p H2 hp e2 h2 => ⟨p, zs, rfl, sq_of h2, hz, fun ys t hper hs ht => by
    rw [srt_eq hper hs]
    exact q t _ (fresh_back e2 ht) (e2.trans (Ex.new ht)) upd_same⟩
/-! ### statements about the shelf -/
theorem s_do {ta : TA} {z : Str} {rest : List V} (w : Wd K C T b l x S xl H) (hs : Sml S) (h1 : σ[i]? = some (some (.ref x))) (ha : EvA ta σ H (.str z :: rest)) (hd : DeedOk z rest) (hat : dAt S.nm z rest) (hf : ¬ full S rest)
    (kk : ∀ H2, Wd K C T b l x ⟨nmTo S.nm rest, S.room, S.past ++ [S.nm], []⟩ xl H2 → D.nx σ H2) : tDrop (tMeth C "do" (spDo C CF) [] E0 (tVar i) (tCons (tTup ta) tNil)) D σ H := by
  obtain ⟨ft, w⟩ := w
  obtain ⟨dx, a, b', p, l', d, hx⟩ := w.sh.ins
  refine ⟨.ref x, h1, x, dx, _, rfl, hx, rfl, ?_⟩
  refine (eu_tup ha (by have := hd.few; simp; omega)) H (Ex.refl _) _ fun t H1 nt e1 ht => ?_
  have w1 := w.ex e1
  exact ⟨x, ft, S, t, z, rest, rfl, w1.sh, hs, ht, hd, hat, fun h => absurd h hf, fun _ q H2 nq hq hto => kk H2 (w1.op hto)⟩
theorem s_undo {ms : List (List Str)} {m : List Str} (w : Wd K C T b l x S xl H) (hs : Sml S) (hm : S.past = ms ++ [m]) (h1 : σ[i]? = some (some (.ref x)))
    (kk : ∀ H2, Wd K C T b l x ⟨m, S.room, ms, S.later ++ [S.nm]⟩ xl H2 → D.nx σ H2) : tDrop (tMeth C "undo" (spUnd C) [] E0 (tVar i) tNil) D σ H := by
  obtain ⟨ft, w⟩ := w
  obtain ⟨dx, a, b', p, l', d, hx⟩ := w.sh.ins
  exact ⟨.ref x, h1, x, dx, _, rfl, hx, rfl, x, ft, S, ms, m, rfl, w.sh, hs, hm, fun H2 hto => kk H2 (w.op hto)⟩
theorem s_set {v : Int} (w : Wd K C T b l x S xl H) (h1 : σ[i]? = some (some (.ref x))) (h2 : Ev te σ H (.int v)) (hv : (S.nm.length : Int) ≤ v ∧ v ≤ 5)
    (kk : ∀ H2, Wd K C T b l x ⟨S.nm, v, S.past, S.later⟩ xl H2 → D.nx σ H2) : tDrop (tMeth C "set_space" (spSps C CF) [] E0 (tVar i) (tCons te tNil)) D σ H := by
  obtain ⟨ft, w⟩ := w
  obtain ⟨dx, a, b', p, l', d, hx⟩ := w.sh.ins
  refine ⟨.ref x, h1, x, dx, _, rfl, hx, rfl, h2 H (Ex.refl _) _ fun H1 e1 => ?_⟩
  have w1 := w.ex e1
  exact ⟨x, ft, S, v, rfl, w1.sh, fun h => absurd hv h, fun _ H2 hto => kk H2 (w1.op hto)⟩
theorem ev_space (w : Wd K C T b l x S xl H) (h1 : σ[i]? = some (some (.ref x))) : Ev (tProp C (spSpg C) [] E0 (tVar i)) σ H (.int S.room) := fun H1 e Q q => by
  obtain ⟨ft, w⟩ := w
  have w1 := w.ex e
  obtain ⟨dx, a, b', p, l', d, hx⟩ := w1.sh.ins
  exact ⟨.ref x, h1, x, dx, _, rfl, hx, x, ft, S, rfl, w1.sh, fun H2 e2 => q H2 e2⟩
theorem el_names (w : Wd K C T b l x S xl H) (hs : Sml S) (h1 : σ[i]? = some (some (.ref x))) : EvL (tMeth C "names" (spNam C) [] E0 (tVar i) tNil) σ H ((srtS S.nm).map V.str) := fun H1 e Q q => by
  obtain ⟨ft, w⟩ := w
  have w1 := w.ex e
  obtain ⟨dx, a, b', p, l', d, hx⟩ := w1.sh.ins
  refine ⟨.ref x, h1, x, dx, _, rfl, hx, rfl, x, ft, S, rfl, w1.sh, hs, fun ys t H2 hp hsr nt e2 ht => ?_⟩
  rw [srt_eq hp hsr] at ht
  exact q t H2 nt e2 ht
theorem eu_depth (w : Wd K C T b l x S xl H) (h1 : σ[i]? = some (some (.ref x))) : EvU (tMeth C "depth" (spDep C) [] E0 (tVar i) tNil) σ H [.int (S.past.length : Nat), .int (S.later.length : Nat)] := fun H1 e Q q => by
  obtain ⟨ft, w⟩ := w
  have w1 := w.ex e
  obtain ⟨dx, a, b', p, l', d, hx⟩ := w1.sh.ins
  exact ⟨.ref x, h1, x, dx, _, rfl, hx, rfl, x, ft, S, rfl, w1.sh, fun t H2 nt e2 ht => q t H2 nt e2 ht⟩
theorem ev_lenS (w : Wd K C T b l x S xl H) (hs : Sml S) (h1 : σ[i]? = some (some (.ref x))) : Ev (tCB (fun xs H Q => ∃ a dx fs, xs = [.ref a] ∧ H a = some (.ins C dx fs) ∧ spLen C [.ref a] H (fun v H2 => ∃ n : Nat, v = .int (n : Int) ∧ n < 1000000 ∧ Q v H2) E0) (tCons (tVar i) tNil)) σ H (.int (S.nm.length : Nat)) := fun H1 e Q q => by
  obtain ⟨ft, w⟩ := w
  have w1 := w.ex e
  obtain ⟨dx, a, b', p, l', d, hx⟩ := w1.sh.ins
  exact ⟨.ref x, h1, x, dx, _, rfl, hx, x, ft, S, rfl, w1.sh, fun H2 e2 => ⟨S.nm.length, rfl, by have := hs.1; omega, q H2 e2⟩⟩
end
end Cp

namespace Cp
open PySem PySem.Spec PyProof.Rows L2 Evl GN GZ GH
def beyQ : Str := "_law_beyond_space.<locals>.<lambda>"
/-- what the law and _law_beyond_space ask -/
structure LawP (P : Program) (w : World) (K : PySem.W.Frag) (mg : Str → Option Value) (base : Heap) (C CF CN : Addr) (T : List (Addr × Str)) where
  sc : SC K C
  MS : Make P w K mg base C "Shelf" CX0 1 ["self"] (spShi C)
  TK : Cal P w K mg base "_law_take" 1 ["_law_bag_here", "_law_many"] (spTake K)
  PK : Cal P w K mg base "_law_pick" 2 ["_law_bag_here", "_law_some"] (spPick K)
  WD : Cal P w K mg base "_law_words" 3 ["_law_bag_here", "_law_many"] (spWords K)
  DO : Mcal P w K mg base C "do" (CX P w) 13 ["self", "deed"] (spDo C CF)
  UN : Mcal P w K mg base C "undo" CX0 2 ["self"] (spUnd C)
  RE : Mcal P w K mg base C "redo" CX0 2 ["self"] (spRed C)
  NM : Mcal P w K mg base C "names" CX0 1 ["self"] (spNam C)
  DP : Mcal P w K mg base C "depth" CX0 1 ["self"] (spDep C)
  SS : Mcal P w K mg base C "set_space" (CX P w) 6 ["self", "value"] (spSps C CF)
  PG : Mcal P w K mg base C "program" (CX P w) 3 ["self", "name"] (spTx C CN)
  TX : Mcal P w K mg base C "text_of" (CX P w) 4 ["self", "name"] (spTx C CN)
  fL : Addr
  fdL : FuncData
  LS : PySem.W.findIn K (.ref C) "__len__" = some (some (.ref fL))
  LF : PySem.W.isFn K (.ref fL) = true
  LN : FnOk P w K mg base CX0 1 fL fdL ["self"] (spLen C)
  bL : Binds K fdL ["self"] []
  pS : Addr
  gS : Addr
  fdS : FuncData
  PO : PropOf K C "space" pS gS
  SG : FnOk P w K mg base CX0 1 gS fdS ["self"] (spSpg C)
  bS : Binds K fdS ["self"] []
  AL : Cal P w K mg base "_law_alike" 3 ["_law_found", "_law_due"] (spAl 2)
  AK : Cal P w K mg base "_law_asked" 16 ["_law_shelf", "_law_deed"] (spAsk K C T)
  TR : Trd P w K mg base CF CN
  gL : mg "len" = none
  gR : mg "range" = none
  gO : mg "sorted" = none
/-! ### small things -/
theorem cut_take (ws : List Str) (m : Nat) : cutV (ws.map V.str) none (some (m : Int)) = (ws.take m).map V.str := by
  have h := HT.sIx_nat (ws.map V.str).length (ws.map V.str).length m
  unfold cutV
  rw [h, HT.sIx_none, List.drop_zero, Nat.sub_zero, List.map_take, List.length_map]
  by_cases hm : m ≤ ws.length
  · rw [Nat.min_eq_left hm]
  · rw [Nat.min_eq_right (by omega), List.take_of_length_le (by rw [List.length_map]; omega), List.take_of_length_le (by rw [List.length_map]; omega)]
theorem rne_same {K : PySem.W.Frag} {H : Hp} {v u : V} {d : PyData} {Q : VK} (h1 : Dp K H v d) (h2 : Dp K H u d) (hs : SeqAt.shaped d = true) (he : PyData.eqv d d = true) (q : Q (.bl false) H) : rNeD K v u H Q := ⟨d, d, h1, h2, hs, hs, by rw [he]; exact q⟩
def dTold (d : PyData) : PyData := .tuple [.str "told", d]
def dNo (z : Str) (d : PyData) : PyData := .tuple [.str "no", .str z, d]
theorem sh_told : SeqAt.shaped (dTold .none) = true := by decide +kernel
theorem sh_toldL : SeqAt.shaped (dTold (.list [])) = true := by decide +kernel
theorem eq_told : PyData.eqv (dTold .none) (dTold .none) = true := by decide +kernel
theorem eq_toldL : PyData.eqv (dTold (.list [])) (dTold (.list [])) = true := by decide +kernel
theorem sh_full (r : Int) : SeqAt.shaped (dNo "Full" (.int r)) = true := by
  have h1 : PyData.canLay0 (.int r) = true := by simp only [PyData.canLay0]
  have h2 : PyData.canLay0 (.str "no") = true := by decide +kernel
  have h3 : PyData.canLay0 (.str "Full") = true := by decide +kernel
  have hd : PyData.depth (.tuple [.str "no", .str "Full", .int r]) ≤ 64 := by simp [PyData.depth, PyData.depthAll]
  have hl : PyData.canLay0 (.tuple [.str "no", .str "Full", .int r]) = true := by
    have e : PyData.canLayAll0 [.str "no", .str "Full", .int r] = true := by
      simp only [PyData.canLayAll0, h1, h2, h3, Bool.and_self]
    simp only [PyData.canLay0, e, Bool.and_true, Bool.true_and]
  show (PyData.canLay0 (.tuple [.str "no", .str "Full", .int r]) && decide (PyData.depth (.tuple [.str "no", .str "Full", .int r]) ≤ 64)) = true
  rw [hl, decide_eq_true hd]
  rfl
theorem eq_full (r : Int) : PyData.eqv (dNo "Full" (.int r)) (dNo "Full" (.int r)) = true := by
  simp [dNo, PyData.eqv, PyData.eqvAll]
theorem sh_full2 (r : Int) : SeqAt.shaped (.list [dNo "Full" (.int r), dNo "Full" (.int r)]) = true := by
  have h1 : PyData.canLay0 (.int r) = true := by simp only [PyData.canLay0]
  have h2 : PyData.canLay0 (.str "no") = true := by decide +kernel
  have h3 : PyData.canLay0 (.str "Full") = true := by decide +kernel
  have hd : PyData.depth (.list [dNo "Full" (.int r), dNo "Full" (.int r)]) ≤ 64 := by simp [dNo, PyData.depth, PyData.depthAll]
  have e : PyData.canLayAll0 [.str "no", .str "Full", .int r] = true := by
    simp only [PyData.canLayAll0, h1, h2, h3, Bool.and_self]
  have hl : PyData.canLay0 (dNo "Full" (.int r)) = true := by
    unfold dNo
    simp only [PyData.canLay0, e, Bool.and_true, Bool.true_and]
  have e2 : PyData.canLayAll0 [dNo "Full" (.int r), dNo "Full" (.int r)] = true := by
    simp only [PyData.canLayAll0, hl, Bool.and_self]
  have hl2 : PyData.canLay0 (.list [dNo "Full" (.int r), dNo "Full" (.int r)]) = true := by
    simp only [PyData.canLay0, e2, Bool.and_true, Bool.true_and]
  show (PyData.canLay0 (.list [dNo "Full" (.int r), dNo "Full" (.int r)]) && decide (PyData.depth (.list [dNo "Full" (.int r), dNo "Full" (.int r)]) ≤ 64)) = true
  rw [hl2, decide_eq_true hd]
  rfl
theorem eq_full2 (r : Int) : PyData.eqv (.list [dNo "Full" (.int r), dNo "Full" (.int r)]) (.list [dNo "Full" (.int r), dNo "Full" (.int r)]) = true := by
  simp [dNo, PyData.eqv, PyData.eqvAll]
theorem dp_full {K : PySem.W.Frag} {H : Hp} {t : Addr} {r : Int} (h : H t = some (.tup (noF (.int r)))) : Dp K H (.ref t) (dNo "Full" (.int r)) := .tup (st_of h) (.cons (.str _) (.cons (.str _) (.cons (.int _) .nil)))
theorem sh_prog : SeqAt.shaped (dNo "NoProgram" (.str "nosuch")) = true := by decide +kernel
theorem eq_prog : PyData.eqv (dNo "NoProgram" (.str "nosuch")) (dNo "NoProgram" (.str "nosuch")) = true := by decide +kernel
theorem cons_to {te : TE} {tr : TA} {σ : L2.St} {H : Hp} {Q : List V → Hp → Prop} (h : te σ H fun x H1 => tr σ H1 fun xs H2 => Q (x :: xs) H2) : tCons te tr σ H Q := h
theorem lst_to {ta : TA} {σ : L2.St} {H : Hp} {Q : VK} (h : ta σ H fun vs H1 => vs.length ≤ sizeLine ∧ ∀ p, H1 p = none → Q (.ref p) (upd H1 p (.lst vs))) : tLst ta σ H Q := h
theorem flk_i (i : Int) : Flk (.int i) (.int i) := .inr (.inl ⟨i, rfl, rfl⟩)
theorem alk_strs {H : Hp} {p q : Addr} {ys : List Str} (h1 : H p = some (.lst (ys.map V.str))) (h2 : H q = some (.lst (ys.map V.str))) (hl : ys.length ≤ 100) : Alk H 1 (.ref p) (.ref q) :=
  .inr ⟨p, q, _, _, rfl, rfl, .inl ⟨h1, h2⟩, rfl, by rw [List.length_map]; exact hl, fun i x y hx hy => by
    rw [hx] at hy
    have e : x = y := Option.some.inj hy
    subst e
    rw [List.getElem?_map] at hx
    obtain ⟨z, _, rfl⟩ := Option.map_eq_some_iff.mp hx
    exact .inr (.inr ⟨z, rfl, rfl⟩)⟩
theorem alk_two {H : Hp} {p q : Addr} {i j : Int} (h1 : H p = some (.tup [.int i, .int j])) (h2 : H q = some (.tup [.int i, .int j])) : Alk H 1 (.ref p) (.ref q) :=
  .inr ⟨p, q, _, _, rfl, rfl, .inr ⟨h1, h2⟩, rfl, by simp, fun n x y hx hy => by
    rw [hx] at hy
    have e : x = y := Option.some.inj hy
    subst e
    match n, hx with
    | 0, hx => exact .inr (.inl ⟨i, (Option.some.inj hx).symm, (Option.some.inj hx).symm⟩)
    | 1, hx => exact .inr (.inl ⟨j, (Option.some.inj hx).symm, (Option.some.inj hx).symm⟩)
    | n + 2, hx => simp at hx⟩
/-- the states behind so many drops -/
def dps (ws : List Str) (m i : Nat) : List (List Str) := (List.range i).map fun j => (ws.take m).drop j
theorem dps_succ (ws : List Str) (m i : Nat) : dps ws m (i + 1) = dps ws m i ++ [(ws.take m).drop i] := by
  unfold dps
  rw [List.range_succ, List.map_append]
  rfl
theorem dps_len (ws : List Str) (m i : Nat) : (dps ws m i).length = i := by
  unfold dps
  rw [List.length_map, List.length_range]
def lat (ws : List Str) (m i : Nat) : List (List Str) := (List.range i).map fun j => ws.take (m - j)
theorem lat_succ (ws : List Str) (m i : Nat) : lat ws m (i + 1) = lat ws m i ++ [ws.take (m - i)] := by
  unfold lat
  rw [List.range_succ, List.map_append]
  rfl
theorem lat_len (ws : List Str) (m i : Nat) : (lat ws m i).length = i := by
  unfold lat
  rw [List.length_map, List.length_range]
theorem wd_new {K : PySem.W.Frag} {C : Addr} {T : List (Addr × Str)} {b l x dx : Addr} {ft : List Addr} {H H2 : Hp} (hB : BagOk K H b l) (hT : LamX.Tabs T H) (nx : H x = none) (ndx : H dx = none) (hne : dx ≠ x) (hS : ShAt C H2 x ft ⟨[], 5, [], []⟩)
    (hft : ∀ y, y ∈ ft → y = x ∨ (upd (upd H dx (.own x)) x (.ins C dx [])) y = none) (hk : ∀ y o, y ≠ x → (upd (upd H dx (.own x)) x (.ins C dx [])) y = some o → H2 y = some o) : WdL K C T b l x ft ⟨[], 5, [], []⟩ [] H2 ∧ Ex H H2 := by
  have e : Ex H (upd (upd H dx (.own x)) x (.ins C dx [])) := (Ex.new ndx).trans (Ex.new (by rw [upd_ne (Ne.symm hne)]; exact nx))
  have e2 : Ex H H2 := fun y o h => hk y o (fun z => by rw [z, nx] at h; cases h) (e _ _ h)
  have no : ∀ {y o}, H y = some o → y ∉ ft := fun {y o} h hm => by
    rcases hft _ hm with z | z
    · rw [z, nx] at h
      cases h
    · rw [e _ _ h] at z
      cases z
  refine ⟨⟨hB.ex e2, hS, hT.ext e2, ?_, ?_, fun p hp => by cases hp⟩, e2⟩
  · obtain ⟨_, hb⟩ := hB.at_
    exact no hb
  · obtain ⟨_, _, _, _, _, _, hl, _⟩ := hB
    exact no hl
def spBey (K : PySem.W.Frag) (T : List (Addr × Str)) : Sp := fun vs H Q _ => ∃ b l, vs = [.ref b] ∧ BagOk K H b l ∧ LamX.Tabs T H ∧ ∀ H2, Q (.bl true) H2
def Nby : List Str := ["_law_bag_here", "_law_shelf", "_law_words_here", "_law_text", "_law_many", "_law_gone", "_law_word", "_law_step", "_law_found", "_law_fresh", "_law_deed"]
theorem sc_by : FnScope Nby ["_law_bag_here"] (defScope (top 105)) := ⟨rfl, rfl, rfl, by decide +kernel, rfl, by decide +kernel, by decide +kernel⟩
section
variable {P : Program} {w : World} {K : PySem.W.Frag} {mg : Str → Option Value} {base : Heap} {f : Addr} {C CF CN cA PA : Addr} {oc dV kV doc pm ct : Value} {od an : Option Addr} {osl : Array (Option Value)} {T : List (Addr × Str)}
theorem ok_bey (lk : K.lookup f = some ⟨oc, od, .func (PySem.W.fnOf "_law_beyond_space" "_law_beyond_space" (defArgs (top 105)) (defBody (top 105)) (defScope (top 105)) dV kV doc pm an (.ref cA) ct), osl⟩) (hcd : PySem.W.codeIn K (.ref cA) "_law_beyond_space" = true) (L : LawP P w K mg base C CF CN T)
    (TB : LamX.TabB base mg cA PA) (hm : (PA, beyQ) ∈ T) (hu : ∀ p ∈ T, p.1 = PA → p.2 = beyQ) :
    FnOk P w K mg base CX0 18 f (PySem.W.fnOf "_law_beyond_space" "_law_beyond_space" (defArgs (top 105)) (defBody (top 105)) (defScope (top 105)) dV kV doc pm an (.ref cA) ct) ["_law_bag_here"] (spBey K T) := by
  refine fn_of (k := 17) (N := Nby) lk hcd sc_by (fun vs H Q E h => ?_) (fun A outer s H vs Q E hr h => ?_)
  · obtain ⟨b, l, rfl, _⟩ := h
    rfl
  · have hrm := fun j (h : j ≤ 17) => hr.mono (j := j) h
    obtain ⟨b, l, rfl, hB, hT, k⟩ := h
    refine ⟨_, pss_cons (by
        exact ps_asg (pe_tup (pa_cons (by
          exact pe_make0 L.MS.m L.MS.G (hrm 2 (by decide)) (by rfl) L.MS.g L.MS.b .nil pass0) (pa_cons (by
          exact pe_call L.WD.G (hrm 3 (by decide)) (by rfl) L.WD.g L.WD.k L.WD.b .nil pass0 (pa_cons (pv 0) (pa_cons pe_int pa_nil))) (pa_cons pe_str pa_nil)))) (pg_tup rfl (pgs_cons (pg_name (i := 1) sc_by.nd rfl (Or.inr rfl)) (pgs_cons (pg_name (i := 2) sc_by.nd rfl (Or.inl rfl)) (pgs_cons (pg_name (i := 3) sc_by.nd rfl (Or.inl rfl)) pgs_nil))))) <| pss_cons (by
        exact ps_asg (pe_op op_add pe_int (pe_call L.TK.G (hrm 1 (by decide)) (by rfl) L.TK.g L.TK.k L.TK.b .nil pass0 (pa_cons (pv 0) (pa_cons pe_int pa_nil)))) (pg_name (i := 4) sc_by.nd rfl (Or.inr rfl))) <| pss_cons (by
        exact ps_asg (pe_op op_add pe_int (pe_call L.TK.G (hrm 1 (by decide)) (by rfl) L.TK.g L.TK.k L.TK.b .nil pass0 (pa_cons (pv 0) (pa_cons (pe_op op_sub (pv 4) pe_int) pa_nil)))) (pg_name (i := 5) sc_by.nd rfl (Or.inr rfl))) <| pss_cons (by
        refine ps_for (passes_of rfl) rfl (pi_list (by exact pe_slice sl_list (pv 2) po_none (po_some (pv 4)))) (pg_name (i := 6) sc_by.nd rfl (Or.inl rfl)) (pss_one (by
          exact ps_expr (pe_meth (pv 1) L.sc.cls L.DO.m L.DO.G (hrm 13 (by decide)) L.DO.b .nil passE (pa_cons (pe_tup (pa_cons pe_str (pa_cons (pv 6) (pa_cons (pv 3) pa_nil)))) pa_nil))))) <| pss_cons (by
        refine ps_for (passes_of rfl) rfl (pi_range1 (by rfl) L.gR (pa_cons (pv 5) pa_nil)) (pg_name (i := 7) sc_by.nd rfl (Or.inl rfl)) (pss_one (by
          exact ps_expr (pe_meth0 (pv 1) L.sc.cls L.UN.m L.UN.G (hrm 2 (by decide)) L.UN.b .nil pass0)))) <| pss_cons (by
        exact ps_expr (pe_meth (pv 1) L.sc.cls L.SS.m L.SS.G (hrm 6 (by decide)) L.SS.b .nil passE (pa_cons (pe_op op_sub (pv 4) (pv 5)) pa_nil))) <| pss_cons (by
        refine ps_for (passes_of rfl) rfl (pi_range1 (by rfl) L.gR (pa_cons (pv 5) pa_nil)) (pg_name (i := 7) sc_by.nd rfl (Or.inl rfl)) (pss_one (by
          exact ps_if (pt_cmpR (op_neD (hrm 0 (by decide)).units) (LamX.pe_lamcall (T := T) (TT := TTr CF CN) (k := 2) (t := fun E' => tMeth C "redo" (spRed C) [] E' (tVar 1) tNil) (by rfl) L.TR.gT L.TR.kT L.TR.lkT L.TR.hcT L.TR.bT sc_tr rfl (Or.inl rfl) (tr_gives (k := 2) (hrm 4 (by decide)) ⟨L.TR.cs1, L.TR.cs2, L.TR.m11, L.TR.m3, L.TR.a1, L.TR.a2, L.TR.a3, L.TR.xn, L.TR.nt, L.TR.nn⟩ L.TR.FF L.TR.gF L.TR.kF L.TR.bF) TB rfl hm hu (hrm 4 (by decide)) (LamX.lamS_by (by kernel_rfl)) rfl (fun _ _ _ _ _ => rfl) (fun A' outer' s' H' E' f' c' hr' => by
            exact pe_meth0 (pv 1) L.sc.cls L.RE.m L.RE.G hr' L.RE.b .nil pass0)) (pe_tup (pa_cons pe_str (pa_cons pe_non pa_nil))) (nomark _)) (pss_one (ps_ret pe_bl)) pss_nil))) <| pss_cons (by
        exact ps_asg (pe_lst (pa_cons (pe_meth0 (pv 1) L.sc.cls L.NM.m L.NM.G (hrm 1 (by decide)) L.NM.b .nil pass0) (pa_cons (by
          exact pe_prop (pv 1) L.sc.cls L.PO L.SG (hrm 2 (by decide)) L.bS .nil pass0 rfl) (pa_cons (pe_meth0 (pv 1) L.sc.cls L.DP.m L.DP.G (hrm 1 (by decide)) L.DP.b .nil pass0) pa_nil)))) (pg_name (i := 8) sc_by.nd rfl (Or.inl rfl))) <| pss_cons (by
        exact ps_if (pt_not (pt_val (by
          exact pe_call L.AL.G (hrm 3 (by decide)) (by rfl) L.AL.g L.AL.k L.AL.b .nil pass0 (pa_cons (pv 8) (pa_cons (pe_lst (pa_cons (pe_callB cr_sortedS (by rfl) L.gO boot_sorted (pa_cons (by
            exact pe_slice sl_list (pv 2) po_none (po_some (pv 4))) pa_nil)) (pa_cons (pe_op op_sub (pv 4) (pv 5)) (pa_cons (pe_tup (pa_cons (pv 4) (pa_cons pe_int pa_nil))) pa_nil)))) pa_nil))) (by intro _; rfl))) (pss_one (ps_ret pe_bl)) pss_nil) <| pss_cons (by
        exact ps_asg (pe_lst (pa_cons (pe_tup (pa_cons pe_str (pa_cons (pe_ix ix_list (pv 2) (pv 4) (fun _ _ => rfl)) (pa_cons (pv 3) pa_nil)))) (pa_cons (pe_tup (pa_cons pe_str (pa_cons (pe_ix ix_list (pv 2) (pv 4) (fun _ _ => rfl)) (pa_cons (pe_ix ix_list (pv 2) pe_int (fun _ _ => rfl)) pa_nil)))) pa_nil))) (pg_name (i := 9) sc_by.nd rfl (Or.inl rfl))) <| pss_cons (by
        refine ps_if (pt_cmpR (op_neD (hrm 0 (by decide)).units) (by
          exact pe_lc (own := [("_law_deed", 10)]) (g := gName 10) (tt := tYes) (te := tCall (spAsk K C T) [] E0 (tCons (tVar 1) (tCons (tVar 10) tNil))) rfl sc_by.nd (pi_list (pv 9)) (blkOk_by (by kernel_rfl)) (fun _ _ _ _ _ => pg_name (i := 10) sc_by.nd rfl (Or.inl rfl)) (fun _ _ _ _ _ => pts_nil) (fun _ _ _ _ _ => by exact pe_call L.AK.G (hrm 16 (by decide)) (by rfl) L.AK.g L.AK.k L.AK.b .nil pass0 (pa_cons (pv 1) (pa_cons (pv 10) pa_nil)))) (pe_op op_rep (pe_lst (pa_cons (pe_tup (pa_cons pe_str (pa_cons pe_str (pa_cons (pe_op op_sub (pv 4) (pv 5)) pa_nil)))) pa_nil)) pe_int) (nomark _)) (pss_one (ps_ret pe_bl)) pss_nil) <| pss_cons (by
        exact ps_if (pt_cmpR (op_neD (hrm 0 (by decide)).units) (pe_call L.AK.G (hrm 16 (by decide)) (by rfl) L.AK.g L.AK.k L.AK.b .nil pass0 (pa_cons (pv 1) (pa_cons (pe_tup (pa_cons pe_str (pa_cons (pe_ix ix_list (pv 2) pe_int (fun _ _ => rfl)) (pa_cons (pv 3) pa_nil)))) pa_nil))) (pe_tup (pa_cons pe_str (pa_cons (pe_lst pa_nil) pa_nil))) (nomark _)) (pss_one (ps_ret pe_bl)) pss_nil) <| pss_cons (by
        exact ps_if (pt_cmpR (op_neD (hrm 0 (by decide)).units) (LamX.pe_lamcall (T := T) (TT := TTr CF CN) (k := 6) (t := fun E' => tMeth C "set_space" (spSps C CF) [] E' (tVar 1) (tCons (tOp (rI0 fun i j => .int (i - j)) (tVar 4) (tVar 5)) tNil)) (by rfl) L.TR.gT L.TR.kT L.TR.lkT L.TR.hcT L.TR.bT sc_tr rfl (Or.inl rfl) (tr_gives (k := 6) (hrm 8 (by decide)) ⟨L.TR.cs1, L.TR.cs2, L.TR.m11, L.TR.m3, L.TR.a1, L.TR.a2, L.TR.a3, L.TR.xn, L.TR.nt, L.TR.nn⟩ L.TR.FF L.TR.gF L.TR.kF L.TR.bF) TB rfl hm hu (hrm 8 (by decide)) (LamX.lamS_by (by kernel_rfl)) rfl (fun _ _ _ _ _ => rfl) (fun A' outer' s' H' E' f' c' hr' => by
            exact pe_meth (pv 1) L.sc.cls L.SS.m L.SS.G hr' L.SS.b .nil (passes_call (takes_of rfl rfl rfl rfl) fun _ _ _ _ h => h) (pa_cons (pe_op op_sub (pv 4) (pv 5)) pa_nil))) (pe_tup (pa_cons pe_str (pa_cons pe_str (pa_cons pe_int pa_nil)))) (nomark _)) (pss_one (ps_ret pe_bl)) pss_nil) <| pss_cons (by
        refine ps_for (passes_of rfl) rfl (pi_list (by exact pe_slice sl_list (pv 2) po_none (po_some (pv 5)))) (pg_name (i := 6) sc_by.nd rfl (Or.inl rfl)) (pss_one (by
          exact ps_expr (pe_meth (pv 1) L.sc.cls L.DO.m L.DO.G (hrm 13 (by decide)) L.DO.b .nil passE (pa_cons (pe_tup (pa_cons pe_str (pa_cons (pv 6) pa_nil))) pa_nil))))) <| pss_cons (by
        exact ps_expr (pe_meth (pv 1) L.sc.cls L.SS.m L.SS.G (hrm 6 (by decide)) L.SS.b .nil passE (pa_cons (pe_op op_sub (pv 4) (pv 5)) pa_nil))) <| pss_cons (by
        refine ps_for (passes_of rfl) rfl (pi_range1 (by rfl) L.gR (pa_cons (pv 5) pa_nil)) (pg_name (i := 7) sc_by.nd rfl (Or.inl rfl)) (pss_one (by
          exact ps_expr (pe_meth0 (pv 1) L.sc.cls L.UN.m L.UN.G (hrm 2 (by decide)) L.UN.b .nil pass0)))) <| pss_one (by
        exact ps_ret (pe_call L.AL.G (hrm 3 (by decide)) (by rfl) L.AL.g L.AL.k L.AL.b .nil pass0 (pa_cons (pe_lst (pa_cons (pe_callB (call_lenOwn L.LS L.LF L.LN (hrm 2 (by decide)) L.bL pass0) (by rfl) L.gL PySem.boot_len (pa_cons (pv 1) pa_nil)) (pa_cons (by
          exact pe_prop (pv 1) L.sc.cls L.PO L.SG (hrm 2 (by decide)) L.bS .nil pass0 rfl) pa_nil))) (pa_cons (pe_lst (pa_cons (pv 4) (pa_cons (pe_op op_sub (pv 4) (pv 5)) pa_nil))) pa_nil)))), ?_⟩
    refine q_asgW ?_
    intro x dx nx ndx hne
    refine ⟨x, dx, rfl, upd_same, fun ft H1 hS hft hk => ⟨rfl, ?_⟩⟩
    obtain ⟨w1, e1⟩ := wd_new hB hT nx ndx hne hS hft hk
    refine ⟨.ref b, rfl, b, l, rfl, w1.bag, fun W ws H2 nW hW gw bt2 hB2 => ?_⟩
    have w2 := (w1.bagTo bt2 hB2).add (a := W) (ys := ws.map V.str) w1 nW hW
    refine ⟨sz_of (n := 3) (by decide), fun t3 ht3 => ?_⟩
    refine ⟨t3, _, rfl, st_of upd_same, rfl, .ref x, _, rfl, .ref W, _, rfl, .str theText, _, rfl, rfl, ?_⟩
    have w3 : Wd K C T b l x ⟨[], 5, [], []⟩ [(W, ws.map V.str)] _ := ⟨ft, w2.ex (Ex.new (o := .tup [V.ref x, .ref W, .str "kind a n\nproc m\ndone\n"]) ht3)⟩
    generalize upd H2 t3 (.tup [V.ref x, .ref W, .str "kind a n\nproc m\ndone\n"]) = H3 at w3 ⊢
    clear w2 w1 hW hB2 bt2 nW hS hft hk hB hT nx ndx ht3
    obtain ⟨gl, gn, gg⟩ := gw
    refine q_asgW ?_
    refine ⟨.ref b, rfl, b, l, 4, rfl, by decide, by decide, w3.bag, fun r H4 r0 r1 bt4 hB4 => ⟨2, r, rfl, rfl, ?_⟩⟩
    have w4 := w3.bagTo bt4 hB4
    obtain ⟨m, hmr, hm2, hm5⟩ : ∃ m : Nat, (2 + r : Int) = (m : Int) ∧ 2 ≤ m ∧ m ≤ 5 := ⟨(2 + r).toNat, by omega, by omega, by omega⟩
    dsimp only
    rw [hmr]
    refine q_asgW ?_
    refine ⟨.ref b, rfl, .int (m : Int), rfl, (m : Int), 1, rfl, rfl, b, l, (m : Int) - 1, rfl, by omega, by omega, w4.bag, fun r' H5 r0' r1' bt5 hB5 => ⟨1, r', rfl, rfl, ?_⟩⟩
    have w5 := w4.bagTo bt5 hB5
    obtain ⟨g, hgr, hg1, hgm⟩ : ∃ g : Nat, (1 + r' : Int) = (g : Int) ∧ 1 ≤ g ∧ g < m := ⟨(1 + r').toNat, by omega, by omega, by omega⟩
    dsimp only
    rw [hgr]
    have L5 : ∀ {n : Nat}, n ≤ m → (ws.take n).length = n := fun {n} h => by rw [List.length_take]; omega
    have sml : ∀ {nm : List Str} {rm : Int} {pa la : List (List Str)}, nm.length ≤ 60 → pa.length ≤ 60 → la.length ≤ 60 → Sml ⟨nm, rm, pa, la⟩ := fun h1 h2 h3 => ⟨h1, h2, h3⟩
    have good : ∀ {w : Str}, w ∈ ws → isW w = true ∧ 1 ≤ w.length ∧ w.length ≤ 6 := fun {w} hw => by
      have h := gg w hw
      unfold goodW at h
      simp only [Bool.and_eq_true, decide_eq_true_eq] at h
      exact ⟨h.1, h.2.1, h.2.2.1⟩
    show tSeq (tFor (iList K (tSl (rSlL K) (tVar 2) tNoPart (tPart (tVar 4)))) (gName 6) (tDrop (tMeth C "do" (spDo C CF) [] E0 (tVar 1) (tCons (tTup (tCons (tC (.str "put")) (tCons (tVar 6) (tCons (tVar 3) tNil)))) tNil)))) _ _ _ H5
    refine q_forNLn (xs := (ws.take m).map V.str) (by
      have z := el_slL (K := K) (te := tVar 2) (σ := [some (V.ref b), some (.ref x), some (.ref W), some (.str theText), some (.int (m : Int)), some (.int (g : Int)), none, none, none, none, none]) (ev_var (H := H5) rfl) eo_none (eo_some (ev_var (i := 4) (v := .int (m : Int)) rfl)) (sq_of (w5.lst (p := (W, ws.map V.str)) (by simp)))
      rw [cut_take] at z
      exact z) (fun p i σ' H' => ∃ v6, σ' = [some (V.ref b), some (.ref x), some (.ref W), some (.str theText), some (.int (m : Int)), some (.int (g : Int)), v6, none, none, none, none] ∧ Wd K C T b l x ⟨ws.take i, 5, prefs ws i, []⟩ [(p, (ws.take m).map V.str), (W, ws.map V.str)] H')
      (fun p H6 hp e6 h6 => ⟨none, rfl, let ⟨ft, w⟩ := w5; ⟨ft, (w.ex e6).add w hp h6⟩⟩) (fun p i σ' H' _ z => ?_) (fun p i y σ' H' hy z => ?_) fun p σ' H' z => ?_
    · obtain ⟨v6, _, w6⟩ := z
      exact sq_of (w6.lst (p := (p, (ws.take m).map V.str)) (by simp))
    · obtain ⟨v6, rfl, w6⟩ := z
      rw [List.getElem?_map] at hy
      obtain ⟨wd, hwd, rfl⟩ := Option.map_eq_some_iff.mp hy
      have him : i < m := by
        have := (List.getElem?_eq_some_iff.mp hwd).1
        rw [List.length_take] at this
        omega
      rw [List.getElem?_take_of_lt him] at hwd
      obtain ⟨hno, hput⟩ := take_putN gn hwd
      have hgd := good (List.mem_of_getElem? hwd)
      refine s_do (z := "put") (rest := [.str wd, .str theText]) w6 (sml (by rw [L5 (by omega)]; omega) (by rw [prefs_len]; omega) (by simp)) rfl (ea_cons ev_c (ea_cons (ev_var rfl) (ea_cons (ev_var rfl) ea_nil))) (.put wd) ⟨hgd.1, hgd.2.1, hgd.2.2, fun z => absurd z (by decide +kernel)⟩ (fun hf => ?_) fun H6 w7 => ⟨_, rfl, ?_⟩
      · have h2 : (5 : Int) ≤ ((ws.take i).length : Int) := hf.2
        rw [L5 (by omega)] at h2
        omega
      · have e1 : nmTo (ws.take i) [.str wd, .str theText] = ws.take (i + 1) := hput
        rw [prefs_succ, ← e1]
        exact w7
    · obtain ⟨v6, rfl, w6⟩ := z
      rw [List.length_map, L5 (Nat.le_refl _)] at w6
      have w6 := w6.less (xl2 := [(W, ws.map V.str)]) (fun q hq => by simp at hq; simp [hq])
      refine q_forR1 (n := (g : Int)) (ea_cons (ev_var rfl) ea_nil) ⟨by omega, by omega⟩ (fun i σ' H' => ∃ v7, σ' = [some (V.ref b), some (.ref x), some (.ref W), some (.str theText), some (.int (m : Int)), some (.int (g : Int)), v6, v7, none, none, none] ∧ Wd K C T b l x ⟨ws.take (m - i), 5, prefs ws (m - i), lat ws m i⟩ [(W, ws.map V.str)] H')
        (fun H6 e6 => ⟨none, rfl, w6.ex e6⟩) (fun i σ' H' hi z => ?_) fun σ' H' z => ?_
      · obtain ⟨v7, rfl, w7⟩ := z
        have hpr : prefs ws (m - i) = prefs ws (m - (i + 1)) ++ [ws.take (m - (i + 1))] := by
          rw [← prefs_succ]
          congr 1
          omega
        refine s_undo (ms := prefs ws (m - (i + 1))) (m := ws.take (m - (i + 1))) w7 (sml (by rw [L5 (by omega)]; omega) (by rw [prefs_len]; omega) (by rw [lat_len]; omega)) hpr rfl fun H7 w8 => ⟨_, rfl, ?_⟩
        rw [lat_succ]
        exact w8
      obtain ⟨v7, rfl, w7⟩ := z
      rw [Int.toNat_natCast] at w7
      show tSeq (tDrop (tMeth C "set_space" (spSps C CF) [] E0 (tVar 1) (tCons (tOp (rI0 fun i j => .int (i - j)) (tVar 4) (tVar 5)) tNil))) _ _ _ H'
      refine s_set (D := { nx := _, rt := _ }) (v := (m : Int) - (g : Int)) w7 rfl (ev_op (x := .int (m : Int)) (y := .int (g : Int)) (ev_var rfl) (ev_var rfl) rv_I0) ⟨by rw [L5 (by omega)]; omega, by omega⟩ fun H8 w8 => ?_
      refine q_forR1 (n := (g : Int)) (ea_cons (ev_var rfl) ea_nil) ⟨by omega, by omega⟩ (fun i σ' H' => ∃ v7, σ' = [some (V.ref b), some (.ref x), some (.ref W), some (.str theText), some (.int (m : Int)), some (.int (g : Int)), v6, v7, none, none, none] ∧ Wd K C T b l x ⟨ws.take (m - g + i), (m : Int) - (g : Int), prefs ws (m - g + i), lat ws m (g - i)⟩ [(W, ws.map V.str)] H')
        (fun H9 e9 => ⟨v7, rfl, w8.ex e9⟩) (fun i σ' H' hi z => ?_) fun σ' H' z => ?_
      · obtain ⟨v7, rfl, w9⟩ := z
        have hla : lat ws m (g - i) = lat ws m (g - (i + 1)) ++ [ws.take (m - g + (i + 1))] := by
          have e : g - i = (g - (i + 1)) + 1 := by omega
          rw [e, lat_succ]
          congr 3
          omega
        refine lam_redo (ms := lat ws m (g - (i + 1))) (m := ws.take (m - g + (i + 1))) w9 (sml (by rw [L5 (by omega)]; omega) (by rw [prefs_len]; omega) (by rw [lat_len]; omega)) hla rfl fun t H9 ht w10 _ => ?_
        refine ⟨sz_of (n := 2) (by decide), fun p hp => ?_⟩
        have e10 := Ex.new (o := .tup [V.str "told", .non]) hp
        refine rne_same (d := dTold .none) (.tup (st_of (e10 _ _ ht)) (.cons (.str _) (.cons .non .nil))) (.tup (st_of upd_same) (.cons (.str _) (.cons .non .nil))) sh_told eq_told ⟨false, rfl, ?_⟩
        refine if_f rfl ⟨_, rfl, ?_⟩
        rw [show m - g + (i + 1) = (m - g + i) + 1 by omega] at w10 ⊢
        rw [prefs_succ]
        exact w10.ex e10
      obtain ⟨v7, rfl, w9⟩ := z
      rw [Int.toNat_natCast, Nat.sub_self, show m - g + g = m by omega] at w9
      have W0 : Wd K C T b l x ⟨ws.take m, (m : Int) - (g : Int), prefs ws m, []⟩ [(W, ws.map V.str)] H' := w9
      clear w9 w8 w7 w6 w5 w4 w3
      have smlm : Sml ⟨ws.take m, (m : Int) - (g : Int), prefs ws m, []⟩ := sml (by rw [L5 (Nat.le_refl _)]; omega) (by rw [prefs_len]; omega) (by simp)
      refine q_asgW ?_
      refine (el_names W0 smlm rfl) H' (Ex.refl _) _ fun p1 H10 n1 e10 h1 => ?_
      refine (ev_space (W0.ex e10) rfl) H10 (Ex.refl _) _ fun H11 e11 => ?_
      refine (eu_depth ((W0.ex e10).ex e11) rfl) H11 (Ex.refl _) _ fun t1 H12 nt1 e12 ht1 => ?_
      refine ⟨sz_of (n := 3) (by decide), fun L1 hL1 => ?_⟩
      rw [show ((prefs ws m).length : Int) = (m : Int) by rw [prefs_len]] at ht1
      have e13 := Ex.new (o := .lst [V.ref p1, .int ((m : Int) - (g : Int)), .ref t1]) hL1
      have W1 := ((((W0.ex e10).ex e11).ex e12).ex e13)
      have hp1 := ((e11.trans e12).trans e13) _ _ h1
      have ht1 := e13 _ _ ht1
      have hL1' : (upd H12 L1 (.lst [V.ref p1, .int ((m : Int) - (g : Int)), .ref t1])) L1 = some (.lst [V.ref p1, .int ((m : Int) - (g : Int)), .ref t1]) := upd_same
      dsimp only
      generalize upd H12 L1 (.lst [V.ref p1, .int ((m : Int) - (g : Int)), .ref t1]) = H13 at W1 hp1 ht1 hL1' ⊢
      show tSeq _ _ _ [some (V.ref b), some (.ref x), some (.ref W), some (.str theText), some (.int (m : Int)), some (.int (g : Int)), v6, v7, some (.ref L1), none, none] H13
      refine q_no (et_is (et_not (et_B (b := true) (fun H14 e14 Q1 q1 => ?_))) rfl) fun H14 e14 => ?_
      · refine ⟨.ref L1, rfl, ?_⟩
        refine (el_sorted (K := K) (zs := ws.take m) (by
          have z := el_slL (K := K) (te := tVar 2) (σ := [some (V.ref b), some (.ref x), some (.ref W), some (.str theText), some (.int (m : Int)), some (.int (g : Int)), v6, v7, some (.ref L1), none, none]) (ev_var (H := H14) rfl) eo_none (eo_some (ev_var (i := 4) (v := .int (m : Int)) rfl)) (sq_of ((W1.ex e14).lst (p := (W, ws.map V.str)) (by simp)))
          rw [cut_take] at z
          exact z) (by rw [L5 (Nat.le_refl _)]; omega)) H14 (Ex.refl _) _ fun p2 H15 n2 e15 h2 => ?_
        refine ⟨.int (m : Int), rfl, .int (g : Int), rfl, (m : Int), (g : Int), rfl, rfl, .int (m : Int), rfl, sz_of (n := 2) (by decide), fun t2 ht2 => ⟨sz_of (n := 3) (by decide), fun L2 hL2 => ?_⟩⟩
        have e16 := Ex.new (o := .tup [V.int (m : Int), .int 0]) ht2
        have e17 := Ex.new (o := .lst [V.ref p2, .int ((m : Int) - (g : Int)), .ref t2]) hL2
        have e147 := (e15.trans e16).trans e17
        refine ⟨_, _, rfl, .inr ⟨L1, L2, _, _, rfl, rfl, .inl ⟨e147 _ _ (e14 _ _ hL1'), upd_same⟩, rfl, by simp, fun n y z hy hz => ?_⟩, fun H18 e18 => q1 H18 (e147.trans e18)⟩
        match n, hy, hz with
        | 0, hy, hz =>
          rw [← Option.some.inj hy, ← Option.some.inj hz]
          exact alk_strs (e147 _ _ (e14 _ _ hp1)) (e17 _ _ (e16 _ _ h2)) (by rw [(srt_perm _).length_eq, L5 (Nat.le_refl _)]; omega)
        | 1, hy, hz =>
          rw [← Option.some.inj hy, ← Option.some.inj hz]
          exact .inl (flk_i _)
        | 2, hy, hz =>
          rw [← Option.some.inj hy, ← Option.some.inj hz]
          exact alk_two (e147 _ _ (e14 _ _ ht1)) (e17 _ _ upd_same)
        | n + 3, hy, hz => simp at hy
      · have W2 := W1.ex e14
        clear hp1 ht1 hL1' h1 n1 nt1 hL1
        have hmw : m < ws.length := by omega
        have h0w : 0 < ws.length := by omega
        obtain ⟨wm, hwm⟩ : ∃ wm, ws[m]? = some wm := ⟨_, List.getElem?_eq_getElem hmw⟩
        obtain ⟨w0, hw0⟩ : ∃ w0, ws[0]? = some w0 := ⟨_, List.getElem?_eq_getElem h0w⟩
        have ix : ∀ {σ : L2.St} {H' : Hp} {S : Shf} {xl : List (Addr × List V)} {n : Nat} {wn : Str} {te : TE}, Wd K C T b l x S ((W, ws.map V.str) :: xl) H' → σ[2]? = some (some (.ref W)) → ws[n]? = some wn → Ev te σ H' (.int (n : Int)) → Ev (tOp (rIxL K) (tVar 2) te) σ H' (.str wn) := fun {σ H' S xl n wn te} hw h2 hn he => ev_ixL (i := n) (ev_var h2) he (sq_of (hw.lst (p := (W, ws.map V.str)) (by simp))) (by rw [List.getElem?_map, hn]; rfl)
        refine q_asgW ?_
        refine lst_to (cons_to ?_)
        refine (eu_tup (σ := [some (V.ref b), some (.ref x), some (.ref W), some (.str theText), some (.int (m : Int)), some (.int (g : Int)), v6, v7, some (.ref L1), none, none]) (vs := [.str "put", .str wm, .str theText]) (ea_cons ev_c (ea_cons (ix W2 rfl hwm (ev_var (i := 4) rfl)) (ea_cons (ev_var (i := 3) rfl) ea_nil))) (show (3 : Nat) ≤ 100000 by decide)) H14 (Ex.refl _) _ fun t3 H15 nt3 e15 ht3 => ?_
        refine cons_to ?_
        refine (eu_tup (σ := [some (V.ref b), some (.ref x), some (.ref W), some (.str theText), some (.int (m : Int)), some (.int (g : Int)), v6, v7, some (.ref L1), none, none]) (vs := [.str "copy", .str wm, .str w0]) (ea_cons ev_c (ea_cons (ix (W2.ex e15) rfl hwm (ev_var (i := 4) rfl)) (ea_cons (ix (W2.ex e15) rfl hw0 ev_c) ea_nil))) (show (3 : Nat) ≤ 100000 by decide)) H15 (Ex.refl _) _ fun t4 H16 nt4 e16 ht4 => ?_
        refine ⟨sz_of (n := 2) (by decide), fun FR hFR => ?_⟩
        have e17 := Ex.new (o := .lst [V.ref t3, .ref t4]) hFR
        have ht3 := (e16.trans e17) _ _ ht3
        have ht4 := e17 _ _ ht4
        have nWF : W ≠ FR := fun z => by
          have := ((W2.ex e15).ex e16).lst (p := (W, ws.map V.str)) (by simp)
          rw [← z, show H16 W = some (.lst (ws.map V.str)) from this] at hFR
          cases hFR
        have W3 : Wd K C T b l x ⟨ws.take m, (m : Int) - (g : Int), prefs ws m, []⟩ [(FR, [V.ref t3, .ref t4]), (W, ws.map V.str)] (upd H16 FR (.lst [V.ref t3, .ref t4])) := by
          obtain ⟨ft, w⟩ := (W2.ex e15).ex e16
          exact ⟨ft, (w.ex e17).add w hFR upd_same⟩
        generalize upd H16 FR (.lst [V.ref t3, .ref t4]) = H17 at W3 ht3 ht4 ⊢
        show tSeq (tIfS (tTest (tOp (rNeD K) (tLc (iList K (tVar 9)) (gName 10) tYes (tCall (spAsk K C T) [] E0 (tCons (tVar 1) (tCons (tVar 10) tNil))) [10]) (tOp rRep (tLst (tCons (tTup (tCons (tC (.str "no")) (tCons (tC (.str "Full")) (tCons (tOp (rI0 fun i j => .int (i - j)) (tVar 4) (tVar 5)) tNil)))) tNil)) (tC (.int 2))))) _ tNext) _ _ [some (V.ref b), some (.ref x), some (.ref W), some (.str theText), some (.int (m : Int)), some (.int (g : Int)), v6, v7, some (.ref L1), some (.ref FR), none] H17
        have fullm : ∀ {o : V}, full ⟨ws.take m, (m : Int) - (g : Int), prefs ws m, []⟩ [.str wm, o] := fun {o} => ⟨(take_putN gn hwm).1, by show (m : Int) - (g : Int) ≤ ((ws.take m).length : Int); rw [L5 (Nat.le_refl _)]; omega⟩
        have gwm := good (List.mem_of_getElem? hwm)
        have gw0 := good (List.mem_of_getElem? hw0)
        have w0m : w0 ∈ ws.take m := List.mem_of_getElem? (i := 0) (by rw [List.getElem?_take_of_lt (by omega)]; exact hw0)
        refine ⟨.ref FR, rfl, FR, rfl, ⟨_, sq_of (W3.lst (p := (FR, [V.ref t3, .ref t4])) (by simp))⟩, fun Dl hD => ?_⟩
        have nWD : W ≠ Dl := fun z => by rw [← z, show H17 W = some (.lst (ws.map V.str)) from W3.lst (p := (W, ws.map V.str)) (by simp)] at hD; cases hD
        have nFD : FR ≠ Dl := fun z => by rw [← z, show H17 FR = some (.lst [V.ref t3, .ref t4]) from W3.lst (p := (FR, [V.ref t3, .ref t4])) (by simp)] at hD; cases hD
        have nlD : ∀ p ∈ [(FR, [V.ref t3, V.ref t4]), (W, ws.map V.str)], p.1 ≠ Dl := fun p hp => by
          simp only [List.mem_cons, List.not_mem_nil, or_false] at hp
          rcases hp with rfl | rfl
          · exact nFD
          · exact nWD
        refine lc_list (K := K) (a := FR) (xs := [V.ref t3, .ref t4]) (fun i H' => ∃ us : List V, us.length = i ∧ (∀ u ∈ us, ∃ t, u = .ref t ∧ H' t = some (.tup (noF (.int ((m : Int) - (g : Int)))))) ∧ H' t3 = some (.tup [.str "put", .str wm, .str theText]) ∧ H' t4 = some (.tup [.str "copy", .str wm, .str w0]) ∧ Wd K C T b l x ⟨ws.take m, (m : Int) - (g : Int), prefs ws m, []⟩ [(Dl, us), (FR, [V.ref t3, .ref t4]), (W, ws.map V.str)] H')
          ⟨[], rfl, fun u hu => (by cases hu), Ex.new hD _ _ ht3, Ex.new hD _ _ ht4, let ⟨ft, w⟩ := W3; ⟨ft, (w.ex (Ex.new (o := .lst []) hD)).add w hD upd_same⟩⟩ (fun i H' _ z => ?_) (fun i y H' hy z => ?_) fun H' z => ?_
        · obtain ⟨us, _, _, _, _, w⟩ := z
          exact sq_of (w.lst (p := (FR, [V.ref t3, .ref t4])) (by simp))
        · obtain ⟨us, hul, hus, h3, h4, w⟩ := z
          refine ⟨rfl, ?_⟩
          have go : ∀ (t : Addr) (z : Str) (o : Str), y = .ref t → H' t = some (.tup [.str z, .str wm, .str o]) → DeedOk z [.str wm, .str o] → (z = "copy" → o ∈ ws.take m) → tCall (spAsk K C T) [] E0 (tCons (tVar 1) (tCons (tVar 10) tNil)) [some (V.ref b), some (.ref x), some (.ref W), some (.str theText), some (.int (m : Int)), some (.int (g : Int)), v6, v7, some (.ref L1), some (.ref FR), some y] H' fun y H4 => ∃ acc, H4 Dl = some (.lst acc) ∧ acc.length < sizeLine ∧ ∃ us : List V, us.length = i + 1 ∧ (∀ u ∈ us, ∃ t, u = .ref t ∧ (upd H4 Dl (.lst (acc ++ [y]))) t = some (.tup (noF (.int ((m : Int) - (g : Int)))))) ∧ (upd H4 Dl (.lst (acc ++ [y]))) t3 = some (.tup [.str "put", .str wm, .str theText]) ∧ (upd H4 Dl (.lst (acc ++ [y]))) t4 = some (.tup [.str "copy", .str wm, .str w0]) ∧ Wd K C T b l x ⟨ws.take m, (m : Int) - (g : Int), prefs ws m, []⟩ [(Dl, us), (FR, [V.ref t3, .ref t4]), (W, ws.map V.str)] (upd H4 Dl (.lst (acc ++ [y]))) := by
            intro t z o hyt ht hdk hco
            refine ⟨.ref x, rfl, y, rfl, b, l, x, _, _, t, z, [.str wm, .str o], by rw [hyt]; rfl, w, smlm, ht, hdk, ⟨gwm.1, gwm.2.1, gwm.2.2, hco⟩, fun _ u H4 hu w4 k4 => ?_, fun h => absurd fullm h⟩
            refine ⟨us, w4.lst (p := (Dl, us)) (by simp), by rw [hul]; exact sz_lt (by have := (List.getElem?_eq_some_iff.mp hy).1; simp at this; omega), us ++ [.ref u], by rw [List.length_append, hul]; rfl, ?_, ?_, ?_, ?_⟩
            · have tupD : ∀ {t xs}, H4 t = some (.tup xs) → (upd H4 Dl (.lst (us ++ [.ref u]))) t = some (.tup xs) := fun {t xs} h => by
                rw [upd_ne (fun z => by rw [z, show H4 Dl = some (.lst us) from w4.lst (p := (Dl, us)) (by simp)] at h; cases h)]
                exact h
              intro v hv
              rw [List.mem_append] at hv
              rcases hv with hv | hv
              · obtain ⟨tt, rfl, htt⟩ := hus v hv
                exact ⟨tt, rfl, tupD (k4 _ _ htt)⟩
              · rw [List.mem_singleton.mp hv]
                exact ⟨u, rfl, tupD hu⟩
            · rw [upd_ne (fun z => by have q := k4 _ _ h3; rw [z, show H4 Dl = some (.lst us) from w4.lst (p := (Dl, us)) (by simp)] at q; cases q)]
              exact k4 _ _ h3
            · rw [upd_ne (fun z => by have q := k4 _ _ h4; rw [z, show H4 Dl = some (.lst us) from w4.lst (p := (Dl, us)) (by simp)] at q; cases q)]
              exact k4 _ _ h4
            · obtain ⟨ft, w4⟩ := w4
              exact ⟨ft, w4.mutL nlD⟩
          match i, hy with
          | 0, hy => exact go t3 "put" theText (Option.some.inj hy).symm h3 (.put wm) (fun z => absurd z (by decide +kernel))
          | 1, hy => exact go t4 "copy" w0 (Option.some.inj hy).symm h4 (.copy wm w0) (fun _ => w0m)
          | n + 2, hy => simp at hy
        obtain ⟨us, hul, hus, h3, h4, w⟩ := z
        have hDl : H' Dl = some (.lst us) := w.lst (p := (Dl, us)) (by simp)
        obtain ⟨u1, u2, rfl⟩ : ∃ u1 u2, us = [u1, u2] := by
          match us, hul with
          | [u1, u2], _ => exact ⟨u1, u2, rfl⟩
        obtain ⟨a1, rfl, ha1⟩ := hus u1 (by simp)
        obtain ⟨a2, rfl, ha2⟩ := hus u2 (by simp)
        refine lst_to (cons_to ?_)
        refine (eu_tup (σ := [some (V.ref b), some (.ref x), some (.ref W), some (.str theText), some (.int (m : Int)), some (.int (g : Int)), v6, v7, some (.ref L1), some (.ref FR), none]) (vs := noF (.int ((m : Int) - (g : Int)))) (ea_cons ev_c (ea_cons ev_c (ea_cons (ev_op (x := .int (m : Int)) (y := .int (g : Int)) (ev_var (i := 4) rfl) (ev_var (i := 5) rfl) rv_I0) ea_nil))) (show (3 : Nat) ≤ 100000 by decide)) H' (Ex.refl _) _ fun t5 H18 nt5 e18 ht5 => ?_
        refine ⟨sz_of (n := 1) (by decide), fun p6 hp6 => ⟨p6, 2, [.ref t5], rfl, rfl, upd_same, by decide, by decide, sz_of (n := 2) (by decide), fun p7 hp7 => ?_⟩⟩
        have e19 := Ex.new (o := .lst [V.ref t5]) hp6
        have e20 := Ex.new (o := .lst (List.replicate (2 : Int).toNat [V.ref t5]).flatten) hp7
        have e1820 := (e18.trans e19).trans e20
        have ht5' := (e19.trans e20) _ _ ht5
        refine rne_same (d := .list [dNo "Full" (.int ((m : Int) - (g : Int))), dNo "Full" (.int ((m : Int) - (g : Int)))]) (.lst (sq_of (e1820 _ _ hDl)) (.cons (dp_full (e1820 _ _ ha1)) (.cons (dp_full (e1820 _ _ ha2)) .nil))) (.lst (sq_of upd_same) (.cons (dp_full ht5') (.cons (dp_full ht5') .nil))) (sh_full2 _) (eq_full2 _) ⟨false, rfl, if_f rfl ?_⟩
        have W4 := (w.ex e1820).less (xl2 := [(W, ws.map V.str)]) (fun q hq => by simp at hq; simp [hq])
        clear e1820 ht5' hp7 e20 hp6 e19 ht5 ha1 ha2 hDl h3 h4 hD W3 nWD nFD nlD
        generalize upd (upd H18 p6 (.lst [V.ref t5])) p7 (.lst (List.replicate (2 : Int).toNat [V.ref t5]).flatten) = H20 at W4 ⊢
        have nfull0 : ¬ full ⟨ws.take m, (m : Int) - (g : Int), prefs ws m, []⟩ [.str w0, .str theText] := fun h => h.1 w0m
        refine ⟨.ref x, rfl, ?_⟩
        refine cons_to ?_
        refine (eu_tup (σ := [some (V.ref b), some (.ref x), some (.ref W), some (.str theText), some (.int (m : Int)), some (.int (g : Int)), v6, v7, some (.ref L1), some (.ref FR), none]) (vs := [.str "put", .str w0, .str theText]) (ea_cons ev_c (ea_cons (ix W4 rfl hw0 ev_c) (ea_cons (ev_var (i := 3) rfl) ea_nil))) (show (3 : Nat) ≤ 100000 by decide)) H20 (Ex.refl _) _ fun t8 H21 nt8 e21 ht8 => ?_
        refine ⟨b, l, x, _, _, t8, "put", [.str w0, .str theText], rfl, W4.ex e21, smlm, ht8, .put w0, ⟨gw0.1, gw0.2.1, gw0.2.2, fun z => absurd z (by decide +kernel)⟩, fun h => absurd h nfull0, fun _ u q H22 hu hq W5 _ => ?_⟩
        have e5 : nmTo (ws.take m) [.str w0, .str theText] = ws.take m := mem_putN w0m
        have W5 : Wd K C T b l x ⟨ws.take m, (m : Int) - (g : Int), prefs ws (m + 1), []⟩ [(W, ws.map V.str)] H22 := by
          rw [prefs_succ, ← e5]
          rw [e5]
          have h := W5
          rw [show (⟨nmTo (ws.take m) [.str w0, .str theText], (m : Int) - (g : Int), prefs ws m ++ [ws.take m], []⟩ : Shf) = ⟨ws.take m, (m : Int) - (g : Int), prefs ws m ++ [ws.take m], []⟩ by rw [e5]] at h
          exact h
        refine ⟨sz_of (n := 0) (by decide), fun q9 hq9 => ⟨sz_of (n := 2) (by decide), fun p9 hp9 => ?_⟩⟩
        have f1 := Ex.new (o := .lst []) hq9
        have f2 := Ex.new (o := .tup [V.str "told", .ref q9]) hp9
        have f12 := f1.trans f2
        refine rne_same (d := dTold (.list [])) (.tup (st_of (f12 _ _ hu)) (.cons (.str _) (.cons (.lst (sq_of (f12 _ _ hq)) .nil) .nil))) (.tup (st_of upd_same) (.cons (.str _) (.cons (.lst (sq_of (f2 _ _ upd_same)) .nil) .nil))) sh_toldL eq_toldL ⟨false, rfl, if_f rfl ?_⟩
        have W6 := W5.ex f12
        generalize upd (upd H22 q9 (.lst [])) p9 (.tup [V.str "told", .ref q9]) = H23 at W6 ⊢
        refine lam_set (v := (m : Int) - (g : Int)) W6 rfl (fun H1 => ev_op (x := .int (m : Int)) (y := .int (g : Int)) (ev_var rfl) (ev_var rfl) rv_I0) (fun _ t9 H24 ht9 W7 _ => ?_) (fun h => ?_)
        · refine ⟨sz_of (n := 3) (by decide), fun p10 hp10 => ?_⟩
          have f3 := Ex.new (o := .tup [V.str "no", .str "Full", .int 5]) hp10
          refine rne_same (d := dNo "Full" (.int 5)) (dp_full (f3 _ _ ht9)) (dp_full upd_same) (sh_full _) (eq_full _) ⟨false, rfl, if_f rfl ?_⟩
          have W8 := W7.ex f3
          generalize upd H24 p10 (.tup [V.str "no", .str "Full", .int 5]) = H25 at W8 ⊢
          have lenD : ∀ {i : Nat}, i ≤ m → ((ws.take m).drop i).length = m - i := fun {i} h => by rw [List.length_drop, L5 (Nat.le_refl _)]
          show tSeq (tFor (iList K (tSl (rSlL K) (tVar 2) tNoPart (tPart (tVar 5)))) (gName 6) (tDrop (tMeth C "do" (spDo C CF) [] E0 (tVar 1) (tCons (tTup (tCons (tC (.str "drop")) (tCons (tVar 6) tNil))) tNil)))) _ _ _ H25
          refine q_forNLn (xs := (ws.take g).map V.str) (by
            have z := el_slL (K := K) (te := tVar 2) (σ := [some (V.ref b), some (.ref x), some (.ref W), some (.str theText), some (.int (m : Int)), some (.int (g : Int)), v6, v7, some (.ref L1), some (.ref FR), none]) (ev_var (H := H25) rfl) eo_none (eo_some (ev_var (i := 5) (v := .int (g : Int)) rfl)) (sq_of (W8.lst (p := (W, ws.map V.str)) (by simp)))
            rw [cut_take] at z
            exact z) (fun p i σ' H' => ∃ v6, σ' = [some (V.ref b), some (.ref x), some (.ref W), some (.str theText), some (.int (m : Int)), some (.int (g : Int)), v6, v7, some (.ref L1), some (.ref FR), none] ∧ Wd K C T b l x ⟨(ws.take m).drop i, (m : Int) - (g : Int), prefs ws (m + 1) ++ dps ws m i, []⟩ [(p, (ws.take g).map V.str), (W, ws.map V.str)] H')
            (fun p H6 hp e6 h6 => ⟨v6, rfl, ?_⟩) (fun p i σ' H' _ z => ?_) (fun p i y σ' H' hy z => ?_) fun p σ' H' z => ?_
          · rw [List.drop_zero, show dps ws m 0 = [] from rfl, List.append_nil]
            obtain ⟨ft, w⟩ := W8
            exact ⟨ft, (w.ex e6).add w hp h6⟩
          · obtain ⟨v6, _, w6⟩ := z
            exact sq_of (w6.lst (p := (p, (ws.take g).map V.str)) (by simp))
          · obtain ⟨v6, rfl, w6⟩ := z
            rw [List.getElem?_map] at hy
            obtain ⟨wd, hwd, rfl⟩ := Option.map_eq_some_iff.mp hy
            have hig : i < g := by
              have := (List.getElem?_eq_some_iff.mp hwd).1
              rw [List.length_take] at this
              omega
            rw [List.getElem?_take_of_lt hig] at hwd
            have hwm2 : (ws.take m)[i]? = some wd := by rw [List.getElem?_take_of_lt (by omega)]; exact hwd
            obtain ⟨hil, hwe⟩ := List.getElem?_eq_some_iff.mp hwm2
            have hcons : (ws.take m).drop i = wd :: (ws.take m).drop (i + 1) := by rw [List.drop_eq_getElem_cons hil, hwe]
            have hnd : (wd :: (ws.take m).drop (i + 1)).Nodup := by
              rw [← hcons]
              exact gn.sublist ((List.drop_sublist _ _).trans (List.take_sublist _ _))
            have hto : nmTo ((ws.take m).drop i) [.str wd] = (ws.take m).drop (i + 1) := by
              rw [hcons]
              exact dropN_head hnd
            refine s_do (z := "drop") (rest := [.str wd]) w6 (sml (by rw [lenD (by omega)]; omega) (by rw [List.length_append, prefs_len, dps_len]; omega) (by simp)) rfl (ea_cons ev_c (ea_cons (ev_var rfl) ea_nil)) (.drop wd) (show wd ∈ (ws.take m).drop i by rw [hcons]; exact List.mem_cons_self) (fun hf => hf) fun H6 w7 => ⟨_, rfl, ?_⟩
            rw [dps_succ, ← List.append_assoc, ← hto]
            exact w7
          · obtain ⟨v6, rfl, w6⟩ := z
            rw [List.length_map, L5 (by omega)] at w6
            have w6 := w6.less (xl2 := [(W, ws.map V.str)]) (fun q hq => by simp at hq; simp [hq])
            show tSeq (tDrop (tMeth C "set_space" (spSps C CF) [] E0 (tVar 1) (tCons (tOp (rI0 fun i j => .int (i - j)) (tVar 4) (tVar 5)) tNil))) _ _ _ H'
            refine s_set (D := { nx := _, rt := _ }) (v := (m : Int) - (g : Int)) w6 rfl (ev_op (x := .int (m : Int)) (y := .int (g : Int)) (ev_var rfl) (ev_var rfl) rv_I0) ⟨by rw [lenD (by omega)]; omega, by omega⟩ fun H8 w8 => ?_
            refine q_forR1 (n := (g : Int)) (ea_cons (ev_var rfl) ea_nil) ⟨by omega, by omega⟩ (fun i σ' H' => ∃ v7 la, σ' = [some (V.ref b), some (.ref x), some (.ref W), some (.str theText), some (.int (m : Int)), some (.int (g : Int)), v6, v7, some (.ref L1), some (.ref FR), none] ∧ la.length = i ∧ Wd K C T b l x ⟨(ws.take m).drop (g - i), (m : Int) - (g : Int), prefs ws (m + 1) ++ dps ws m (g - i), la⟩ [(W, ws.map V.str)] H')
              (fun H9 e9 => ⟨v7, [], rfl, rfl, w8.ex e9⟩) (fun i σ' H' hi z => ?_) fun σ' H' z => ?_
            · obtain ⟨v7, la, rfl, hla, w9⟩ := z
              have hpr : prefs ws (m + 1) ++ dps ws m (g - i) = (prefs ws (m + 1) ++ dps ws m (g - (i + 1))) ++ [(ws.take m).drop (g - (i + 1))] := by
                rw [List.append_assoc, ← dps_succ]
                congr 2
                omega
              exact s_undo w9 (sml (by rw [lenD (by omega)]; omega) (by rw [List.length_append, prefs_len, dps_len]; omega) (by omega)) hpr rfl fun H10 w10 => ⟨_, _, rfl, by rw [List.length_append, hla]; rfl, w10⟩
            · obtain ⟨v7, la, rfl, hla, w9⟩ := z
              rw [Int.toNat_natCast, Nat.sub_self, List.drop_zero, show dps ws m 0 = [] from rfl, List.append_nil] at w9
              have hlag : la.length ≤ 60 := by rw [hla]; omega
              have sm9 : Sml ⟨ws.take m, (m : Int) - (g : Int), prefs ws (m + 1), la⟩ := sml (by rw [L5 (Nat.le_refl _)]; omega) (by rw [prefs_len]; omega) hlag
              refine s_ret (v := .bl true) (fun H10 e10 Q1 q1 => ?_) fun H10 _ => k H10
              have w10 := w9.ex e10
              refine cons_to (lst_to ?_)
              refine cons_to ?_
              refine (ev_lenS w10 sm9 rfl) H10 (Ex.refl _) _ fun H11 e11 => ?_
              refine cons_to ?_
              refine (ev_space (w10.ex e11) rfl) H11 (Ex.refl _) _ fun H12 e12 => ?_
              refine ⟨sz_of (n := 2) (by decide), fun La hLa => ?_⟩
              refine ⟨.int (m : Int), rfl, .int (m : Int), rfl, .int (g : Int), rfl, (m : Int), (g : Int), rfl, rfl, sz_of (n := 2) (by decide), fun Lb hLb => ?_⟩
              have f1 := Ex.new (o := .lst [V.int ((ws.take m).length : Nat), .int ((m : Int) - (g : Int))]) hLa
              have f2 := Ex.new (o := .lst [V.int (m : Int), .int ((m : Int) - (g : Int))]) hLb
              refine ⟨_, _, rfl, .inr ⟨La, Lb, _, _, rfl, rfl, .inl ⟨f2 _ _ upd_same, upd_same⟩, rfl, by simp, fun n y z hy hz => ?_⟩, fun H18 e18 => q1 H18 (((e11.trans e12).trans (f1.trans f2)).trans e18)⟩
              match n, hy, hz with
              | 0, hy, hz =>
                rw [← Option.some.inj hy, ← Option.some.inj hz, L5 (Nat.le_refl _)]
                exact .inl (flk_i _)
              | 1, hy, hz =>
                rw [← Option.some.inj hy, ← Option.some.inj hz]
                exact .inl (flk_i _)
              | n + 2, hy, hz => simp at hy
        · have := h.1
          rw [L5 (Nat.le_refl _)] at this
          omega
end
end Cp

namespace Cp
open PySem PySem.Spec PyProof.Rows L2 Evl GN GZ GH
def lawQ : Str := "law.<locals>.<lambda>"
def spLaw (K : PySem.W.Frag) (T : List (Addr × Str)) : Sp := fun vs H Q _ => ∃ (a : Addr) (ns : List Int), vs = [.ref a] ∧ SqL K H a (ns.map V.int) ∧ ns.length ≤ 63 ∧ LamX.Tabs T H ∧ ∀ H2, Q (.bl true) H2
def Nlw : List Str := ["_law_script", "_law_bag_here", "_law_text", "_law_turn", "_law_shelf", "_law_words_here", "_law_many", "_law_word", "_law_space", "_law_ask", "_law_odd", "_law_due", "_law_found"]
theorem sc_lw : FnScope Nlw ["_law_script"] (defScope (top 106)) := ⟨rfl, rfl, rfl, by decide +kernel, rfl, by decide +kernel, by decide +kernel⟩
theorem Flk.alk {H : Hp} {x : V} (h : Flk x x) : ∀ n, Alk H n x x
  | 0 => h
  | _ + 1 => .inl h
theorem alk_tupF {H : Hp} {p q : Addr} {xs : List V} {n : Nat} (h1 : H p = some (.tup xs)) (h2 : H q = some (.tup xs)) (hf : ∀ x ∈ xs, Flk x x) (hl : xs.length ≤ 100) : Alk H (n + 1) (.ref p) (.ref q) :=
  .inr ⟨p, q, _, _, rfl, rfl, .inr ⟨h1, h2⟩, rfl, hl, fun i x y hx hy => by
    rw [hx] at hy
    have e : x = y := Option.some.inj hy
    subst e
    exact (hf x (List.mem_of_getElem? hx)).alk n⟩
theorem flk_noF (i : Int) : ∀ x ∈ noF (.int i), Flk x x := fun x hx => by
  simp only [noF, List.mem_cons, List.not_mem_nil, or_false] at hx
  rcases hx with rfl | rfl | rfl
  · exact .inr (.inr ⟨_, rfl, rfl⟩)
  · exact .inr (.inr ⟨_, rfl, rfl⟩)
  · exact flk_i i
theorem flk_told : ∀ x ∈ [V.str "told", .non], Flk x x := fun x hx => by
  simp only [List.mem_cons, List.not_mem_nil, or_false] at hx
  rcases hx with rfl | rfl
  · exact .inr (.inr ⟨_, rfl, rfl⟩)
  · exact .inl ⟨rfl, rfl⟩
/-- [space, len, names] against [space, many, sorted(words[:many])] -/
theorem s_tell {K : PySem.W.Frag} {C : Addr} {T : List (Addr × Str)} {b l x W : Addr} {S : Shf} {ws : List Str} {H : Hp} {σ : L2.St} {D : Ends} {m : Nat} (w : Wd K C T b l x S [(W, ws.map V.str)] H) (hs : Sml S) (h4 : σ[4]? = some (some (.ref x))) (h5 : σ[5]? = some (some (.ref W))) (h6 : σ[6]? = some (some (.int (m : Int)))) (h8 : σ[8]? = some (some (.int S.room)))
    (hnm : S.nm = ws.take m) (hml : S.nm.length = m) (kk : ∀ H2, Wd K C T b l x S [(W, ws.map V.str)] H2 → D.nx σ H2) :
    tIfS (tNot (tB (tCall (spAl 2) [] E0 (tCons (tLst (tCons (tProp C (spSpg C) [] E0 (tVar 4)) (tCons (tCB (fun xs H Q => ∃ a dx fs, xs = [.ref a] ∧ H a = some (.ins C dx fs) ∧ spLen C [.ref a] H (fun v H2 => ∃ n : Nat, v = .int (n : Int) ∧ n < 1000000 ∧ Q v H2) E0) (tCons (tVar 4) tNil)) (tCons (tMeth C "names" (spNam C) [] E0 (tVar 4) tNil) tNil)))) (tCons (tLst (tCons (tVar 8) (tCons (tVar 6) (tCons (tCB (rSortedS K) (tCons (tSl (rSlL K) (tVar 5) tNoPart (tPart (tVar 6))) tNil)) tNil)))) tNil))))) (tRet (tC (.bl false))) tNext D σ H := by
  have hs1 := hs.1
  refine s_when (b := false) (et_is (et_not (et_B (b := true) (fun H1 e1 Q1 q1 => ?_))) rfl) (fun z => (nomatch z)) fun _ H2 e2 => kk H2 (w.ex e2)
  have w1 := w.ex e1
  refine cons_to (lst_to (cons_to ?_))
  refine (ev_space w1 h4) H1 (Ex.refl _) _ fun H2 e2 => ?_
  refine cons_to ?_
  refine (ev_lenS (w1.ex e2) hs h4) H2 (Ex.refl _) _ fun H3 e3 => ?_
  refine cons_to ?_
  refine (el_names ((w1.ex e2).ex e3) hs h4) H3 (Ex.refl _) _ fun p1 H4 n1 e4 hp1 => ?_
  refine ⟨sz_of (n := 3) (by decide), fun La hLa => ?_⟩
  have f1 := Ex.new (o := .lst [V.int S.room, .int (S.nm.length : Nat), .ref p1]) hLa
  have w5 := ((((w1.ex e2).ex e3).ex e4).ex f1)
  refine ⟨.int S.room, h8, .int (m : Int), h6, ?_⟩
  refine cons_to ?_
  refine (el_sorted (K := K) (zs := ws.take m) (by
    have z := el_slL (K := K) (te := tVar 5) (σ := σ) (ev_var (H := upd H4 La (.lst [V.int S.room, .int (S.nm.length : Nat), .ref p1])) h5) eo_none (eo_some (ev_var (i := 6) (v := .int (m : Int)) h6)) (sq_of (w5.lst (p := (W, ws.map V.str)) (by simp)))
    rw [cut_take] at z
    exact z) (by rw [← hnm]; omega)) _ (Ex.refl _) _ fun p2 H6 n2 e6 hp2 => ?_
  refine ⟨sz_of (n := 3) (by decide), fun Lb hLb => ?_⟩
  have f2 := Ex.new (o := .lst [V.int S.room, .int (m : Int), .ref p2]) hLb
  have f62 := e6.trans f2
  refine ⟨_, _, rfl, .inr ⟨La, Lb, _, _, rfl, rfl, .inl ⟨f62 _ _ upd_same, upd_same⟩, rfl, by simp, fun n y z hy hz => ?_⟩, fun H18 e18 => q1 H18 (((((e2.trans e3).trans e4).trans f1).trans f62).trans e18)⟩
  match n, hy, hz with
  | 0, hy, hz =>
    rw [← Option.some.inj hy, ← Option.some.inj hz]
    exact .inl (flk_i _)
  | 1, hy, hz =>
    rw [← Option.some.inj hy, ← Option.some.inj hz, hml]
    exact .inl (flk_i _)
  | 2, hy, hz =>
    rw [← Option.some.inj hy, ← Option.some.inj hz]
    rw [hnm] at hp1
    exact alk_strs ((f1.trans f62) _ _ hp1) (f2 _ _ hp2) (by rw [(srt_perm _).length_eq, ← hnm]; omega)
  | n + 3, hy, hz => simp at hy
section
variable {P : Program} {w : World} {K : PySem.W.Frag} {mg : Str → Option Value} {base : Heap} {f : Addr} {C CF CN cA PA : Addr} {oc dV kV doc pm ct : Value} {od an : Option Addr} {osl : Array (Option Value)} {T : List (Addr × Str)}
theorem ok_law {t1 t2 : Tok} (lk : K.lookup f = some ⟨oc, od, .func (PySem.W.fnOf "law" "law" (defArgs (top 106)) (defBody (top 106)) (defScope (top 106)) dV kV doc pm an (.ref cA) ct), osl⟩) (hcd : PySem.W.codeIn K (.ref cA) "law" = true) (L : LawP P w K mg base C CF CN T)
    (TB : LamX.TabB base mg cA PA) (hm : (PA, lawQ) ∈ T) (hu : ∀ p ∈ T, p.1 = PA → p.2 = lawQ) (BAG : Cal P w K mg base "_law_bag" 1 ["_law_script"] (spBag K)) (BY : Cal P w K mg base "_law_beyond_space" 18 ["_law_bag_here"] (spBey K T)) (gP : mg "PROGRAMS" = some (.int 5 t1)) (gW : mg "WISHES" = some (.int 5 t2)) :
    FnOk P w K mg base CX0 20 f (PySem.W.fnOf "law" "law" (defArgs (top 106)) (defBody (top 106)) (defScope (top 106)) dV kV doc pm an (.ref cA) ct) ["_law_script"] (spLaw K T) := by
  refine fn_of (k := 19) (N := Nlw) lk hcd sc_lw (fun vs H Q E h => ?_) (fun A outer s H vs Q E hr h => ?_)
  · obtain ⟨a, ns, rfl, _⟩ := h
    rfl
  · have hrm := fun j (h : j ≤ 19) => hr.mono (j := j) h
    obtain ⟨a, ns, rfl, ha, hn, hT, k⟩ := h
    refine ⟨_, pss_cons (by
        exact ps_asg (pe_call BAG.G (hrm 1 (by decide)) (by rfl) BAG.g BAG.k BAG.b .nil pass0 (pa_cons (pv 0) pa_nil)) (pg_name (i := 1) sc_lw.nd rfl (Or.inl rfl))) <| pss_cons (by
        exact ps_asg pe_str (pg_name (i := 2) sc_lw.nd rfl (Or.inl rfl))) <| pss_cons (by
        refine ps_for (passes_of rfl) rfl (pi_range1 (by rfl) L.gR (pa_cons pe_int pa_nil)) (pg_name (i := 3) sc_lw.nd rfl (Or.inl rfl)) (pss_cons (by
          exact ps_asg (pe_tup (pa_cons (by
            exact pe_make0 L.MS.m L.MS.G (hrm 2 (by decide)) (by rfl) L.MS.g L.MS.b .nil pass0) (pa_cons (by
            exact pe_call L.WD.G (hrm 3 (by decide)) (by rfl) L.WD.g L.WD.k L.WD.b .nil pass0 (pa_cons (pv 1) (pa_cons pe_int pa_nil))) pa_nil))) (pg_tup rfl (pgs_cons (pg_name (i := 4) sc_lw.nd rfl (Or.inr rfl)) (pgs_cons (pg_name (i := 5) sc_lw.nd rfl (Or.inl rfl)) pgs_nil)))) <| pss_cons (by
          exact ps_asg (pe_call L.TK.G (hrm 1 (by decide)) (by rfl) L.TK.g L.TK.k L.TK.b .nil pass0 (pa_cons (pv 1) (pa_cons pe_int pa_nil))) (pg_name (i := 6) sc_lw.nd rfl (Or.inl rfl))) <| pss_cons (by
          refine ps_for (passes_of rfl) rfl (pi_list (by exact pe_slice sl_list (pv 5) po_none (po_some (pv 6)))) (pg_name (i := 7) sc_lw.nd rfl (Or.inl rfl)) (pss_one (by
            exact ps_expr (pe_meth (pv 4) L.sc.cls L.DO.m L.DO.G (hrm 13 (by decide)) L.DO.b .nil passE (pa_cons (pe_tup (pa_cons pe_str (pa_cons (pv 7) (pa_cons (pv 2) pa_nil)))) pa_nil))))) <| pss_cons (by
          exact ps_asg pe_int (pg_name (i := 8) sc_lw.nd rfl (Or.inl rfl))) <| pss_cons (by
          refine ps_for (passes_of rfl) rfl (pi_range1 (by rfl) L.gR (pa_cons pe_int pa_nil)) (pg_name (i := 9) sc_lw.nd rfl (Or.inl rfl)) (pss_cons (by
            exact ps_asg (pe_call L.PK.G (hrm 2 (by decide)) (by rfl) L.PK.g L.PK.k L.PK.b .nil pass0 (pa_cons (pv 1) (pa_cons (pe_lst (pa_cons (pe_op op_sub (pe_call L.TK.G (hrm 1 (by decide)) (by rfl) L.TK.g L.TK.k L.TK.b .nil pass0 (pa_cons (pv 1) (pa_cons pe_int pa_nil))) pe_int) (pa_cons (pv 6) (pa_cons (pe_op op_sub (pv 6) pe_int) (pa_cons pe_int (pa_cons pe_int (pa_cons (pe_op op_sub pe_int (pe_call L.TK.G (hrm 1 (by decide)) (by rfl) L.TK.g L.TK.k L.TK.b .nil pass0 (pa_cons (pv 1) (pa_cons (pe_op op_pow pe_int pe_int) pa_nil)))) pa_nil))))))) pa_nil))) (pg_name (i := 10) sc_lw.nd rfl (Or.inr rfl))) <| pss_cons (by
            exact ps_asg (pe_ifExp (pt_chain op_le op_le (pv 6) (pv 10) pe_int) (pe_tup (pa_cons pe_str (pa_cons pe_non pa_nil))) (pe_tup (pa_cons pe_str (pa_cons pe_str (pa_cons pe_int pa_nil))))) (pg_name (i := 11) sc_lw.nd rfl (Or.inl rfl))) <| pss_cons (by
            exact ps_if (pt_not (pt_val (by
              exact pe_call L.AL.G (hrm 3 (by decide)) (by rfl) L.AL.g L.AL.k L.AL.b .nil pass0 (pa_cons (LamX.pe_lamcall (T := T) (TT := TTr CF CN) (k := 6) (t := fun E' => tMeth C "set_space" (spSps C CF) [] E' (tVar 4) (tCons (tVar 10) tNil)) (by rfl) L.TR.gT L.TR.kT L.TR.lkT L.TR.hcT L.TR.bT sc_tr rfl (Or.inl rfl) (tr_gives (k := 6) (hrm 8 (by decide)) ⟨L.TR.cs1, L.TR.cs2, L.TR.m11, L.TR.m3, L.TR.a1, L.TR.a2, L.TR.a3, L.TR.xn, L.TR.nt, L.TR.nn⟩ L.TR.FF L.TR.gF L.TR.kF L.TR.bF) TB rfl hm hu (hrm 8 (by decide)) (LamX.lamS_by (by kernel_rfl)) rfl (fun _ _ _ _ _ => rfl) (fun A' outer' s' H' E' f' c' hr' => by
              exact pe_meth (pv 4) L.sc.cls L.SS.m L.SS.G hr' L.SS.b .nil (passes_call (takes_of rfl rfl rfl rfl) fun _ _ _ _ h => h) (pa_cons (pv 10) pa_nil))) (pa_cons (pv 11) pa_nil))) (by intro _; rfl))) (pss_one (ps_ret pe_bl)) pss_nil) <| pss_cons (by
            exact ps_asg (pe_ifExp (pt_cmpR op_eq (pe_ix ix_tup (pv 11) pe_int (fun _ _ => rfl)) pe_str (nomark _)) (pv 10) (pv 8)) (pg_name (i := 8) sc_lw.nd rfl (Or.inl rfl))) <| pss_one (by
            exact ps_if (pt_not (pt_val (by
              exact pe_call L.AL.G (hrm 3 (by decide)) (by rfl) L.AL.g L.AL.k L.AL.b .nil pass0 (pa_cons (pe_lst (pa_cons (by exact pe_prop (pv 4) L.sc.cls L.PO L.SG (hrm 2 (by decide)) L.bS .nil pass0 rfl) (pa_cons (pe_callB (call_lenOwn L.LS L.LF L.LN (hrm 2 (by decide)) L.bL pass0) (by rfl) L.gL PySem.boot_len (pa_cons (pv 4) pa_nil)) (pa_cons (pe_meth0 (pv 4) L.sc.cls L.NM.m L.NM.G (hrm 1 (by decide)) L.NM.b .nil pass0) pa_nil)))) (pa_cons (pe_lst (pa_cons (pv 8) (pa_cons (pv 6) (pa_cons (pe_callB cr_sortedS (by rfl) L.gO boot_sorted (pa_cons (by exact pe_slice sl_list (pv 5) po_none (po_some (pv 6))) pa_nil)) pa_nil)))) pa_nil))) (by intro _; rfl))) (pss_one (ps_ret pe_bl)) pss_nil))) <| pss_cut (by
          exact ps_asg (pe_call L.AK.G (hrm 16 (by decide)) (by rfl) L.AK.g L.AK.k L.AK.b .nil pass0 (pa_cons (pv 4) (pa_cons (pe_tup (pa_cons pe_str (pa_cons (pe_ix ix_list (pv 5) (pv 6) (fun _ _ => rfl)) (pa_cons (pv 2) pa_nil)))) pa_nil))) (pg_name (i := 12) sc_lw.nd rfl (Or.inl rfl))) <| pss_cut (by
          exact ps_if (pt_cmpR (op_neD (hrm 0 (by decide)).units) (pv 12) (pe_ifExp (pt_cmpR op_lt (pv 6) (pv 8) (nomark _)) (pe_tup (pa_cons pe_str (pa_cons (pe_lst pa_nil) pa_nil))) (pe_tup (pa_cons pe_str (pa_cons pe_str (pa_cons (pv 8) pa_nil))))) (nomark _)) (pss_one (ps_ret pe_bl)) pss_nil) <| pss_cut (by
          exact ps_if (PW.pt (pw_and (pt_cmpR op_gt (pv 6) pe_int (nomark _)) (pw_and1 (pt_cmpR (op_neD (hrm 0 (by decide)).units) (pe_call L.AK.G (hrm 16 (by decide)) (by rfl) L.AK.g L.AK.k L.AK.b .nil pass0 (pa_cons (pv 4) (pa_cons (pe_tup (pa_cons pe_str (pa_cons (pe_ix ix_list (pv 5) pe_int (fun _ _ => rfl)) (pa_cons (pv 2) pa_nil)))) pa_nil))) (pe_tup (pa_cons pe_str (pa_cons (pe_lst pa_nil) pa_nil))) (nomark _))))) (pss_one (ps_ret pe_bl)) pss_nil) <| pss_cut (by
          exact ps_if (pt_cmpR op_gt (pe_ix ix_tup (pe_meth0 (pv 4) L.sc.cls L.DP.m L.DP.G (hrm 1 (by decide)) L.DP.b .nil pass0) pe_int (fun _ _ => rfl)) pe_int (nomark _)) (pss_one (by
            exact ps_expr (pe_meth0 (pv 4) L.sc.cls L.UN.m L.UN.G (hrm 2 (by decide)) L.UN.b .nil pass0))) pss_nil) <| pss_cons (by
          exact ps_if (PW.pt (pw_or (pt_cmpR op_ne (by exact pe_prop (pv 4) L.sc.cls L.PO L.SG (hrm 2 (by decide)) L.bS .nil pass0 rfl) (pv 8) (nomark _)) (pw_or1 (pt_cmpR (op_neD (hrm 0 (by decide)).units) (LamX.pe_lamcall (T := T) (TT := TTr CF CN) (k := 3) (t := fun E' => tMeth C "program" (spTx C CN) [] E' (tVar 4) (tCons (tC (.str "nosuch")) tNil)) (by rfl) L.TR.gT L.TR.kT L.TR.lkT L.TR.hcT L.TR.bT sc_tr rfl (Or.inl rfl) (tr_gives (k := 3) (hrm 5 (by decide)) ⟨L.TR.cs1, L.TR.cs2, L.TR.m11, L.TR.m3, L.TR.a1, L.TR.a2, L.TR.a3, L.TR.xn, L.TR.nt, L.TR.nn⟩ L.TR.FF L.TR.gF L.TR.kF L.TR.bF) TB rfl hm hu (hrm 5 (by decide)) (LamX.lamS_by (by kernel_rfl)) rfl (fun _ _ _ _ _ => rfl) (fun A' outer' s' H' E' f' c' hr' => by
              exact pe_meth (pv 4) L.sc.cls L.PG.m L.PG.G hr' L.PG.b .nil (passes_call (takes_of rfl rfl rfl rfl) fun _ _ _ _ h => h) (pa_cons pe_str pa_nil))) (pe_tup (pa_cons pe_str (pa_cons pe_str (pa_cons pe_str pa_nil)))) (nomark _))))) (pss_one (ps_ret pe_bl)) pss_nil) <| pss_one (by
          exact ps_if (pt_cmpR (op_neD (hrm 0 (by decide)).units) (LamX.pe_lamcall (T := T) (TT := TTr CF CN) (k := 4) (t := fun E' => tMeth C "text_of" (spTx C CN) [] E' (tVar 4) (tCons (tC (.str "nosuch")) tNil)) (by rfl) L.TR.gT L.TR.kT L.TR.lkT L.TR.hcT L.TR.bT sc_tr rfl (Or.inl rfl) (tr_gives (k := 4) (hrm 6 (by decide)) ⟨L.TR.cs1, L.TR.cs2, L.TR.m11, L.TR.m3, L.TR.a1, L.TR.a2, L.TR.a3, L.TR.xn, L.TR.nt, L.TR.nn⟩ L.TR.FF L.TR.gF L.TR.kF L.TR.bF) TB rfl hm hu (hrm 6 (by decide)) (LamX.lamS_by (by kernel_rfl)) rfl (fun _ _ _ _ _ => rfl) (fun A' outer' s' H' E' f' c' hr' => by
              exact pe_meth (pv 4) L.sc.cls L.TX.m L.TX.G hr' L.TX.b .nil (passes_call (takes_of rfl rfl rfl rfl) fun _ _ _ _ h => h) (pa_cons pe_str pa_nil))) (pe_tup (pa_cons pe_str (pa_cons pe_str (pa_cons pe_str pa_nil)))) (nomark _)) (pss_one (ps_ret pe_bl)) pss_nil))) <| pss_one (by
        exact ps_ret (pe_and (pe_cmpR (op_eqD (hrm 0 (by decide)).units) (pe_lst (pa_cons (pe_glob (v := .int 5) (by rfl) gP ⟨_, rfl⟩) (pa_cons (pe_glob (v := .int 5) (by rfl) gW ⟨_, rfl⟩) pa_nil))) (pe_lst (pa_cons pe_int (pa_cons pe_int pa_nil))) (nomark _)) (pe_one (pe_call BY.G (hrm 18 (by decide)) (by rfl) BY.g BY.k BY.b .nil pass0 (pa_cons (pv 1) pa_nil))))), ?_⟩
    refine q_asgW ?_
    refine ⟨.ref a, rfl, a, ns, rfl, ha, hn, fun b l H1 nb e1 bag1 => ?_⟩
    have T1 := hT.ext e1
    refine q_asg (v := .str theText) ev_c fun H2 e2 => ?_
    refine q_forR1 (n := 3) (ea_cons ev_c ea_nil) ⟨by decide, by decide⟩ (fun _ σ' H' => ∃ p3 p4 p5 p6 p7 p8 p9 p10 p11 p12, σ' = [some (V.ref a), some (.ref b), some (.str theText), p3, p4, p5, p6, p7, p8, p9, p10, p11, p12] ∧ BagOk K H' b l ∧ LamX.Tabs T H')
      (fun H3 e3 => ⟨_, _, _, _, _, _, _, _, _, _, rfl, (bag1.ex e2).ex e3, (T1.ext e2).ext e3⟩) (fun i σ' H3 hi z => ?_) fun σ' H3 z => ?_
    · obtain ⟨p3, p4, p5, p6, p7, p8, p9, p10, p11, p12, rfl, hB, hT3⟩ := z
      clear T1 bag1 e1 e2
      refine q_asgW ?_
      intro x dx nx ndx hne
      refine ⟨x, dx, rfl, upd_same, fun ft H1 hS hft hk => ⟨rfl, ?_⟩⟩
      obtain ⟨w1, e1⟩ := wd_new hB hT3 nx ndx hne hS hft hk
      refine ⟨.ref b, rfl, b, l, rfl, w1.bag, fun W ws H2 nW hW gw bt2 hB2 => ?_⟩
      have w2 := (w1.bagTo bt2 hB2).add (a := W) (ys := ws.map V.str) w1 nW hW
      refine ⟨sz_of (n := 2) (by decide), fun t3 ht3 => ?_⟩
      refine ⟨t3, _, rfl, st_of upd_same, rfl, .ref x, _, rfl, .ref W, _, rfl, rfl, ?_⟩
      have w3 : Wd K C T b l x ⟨[], 5, [], []⟩ [(W, ws.map V.str)] _ := ⟨ft, w2.ex (Ex.new (o := .tup [V.ref x, .ref W]) ht3)⟩
      generalize upd H2 t3 (.tup [V.ref x, .ref W]) = H5 at w3 ⊢
      clear w2 w1 hW hB2 bt2 nW hS hft hk hB hT3 nx ndx ht3
      obtain ⟨gl, gn, gg⟩ := gw
      refine q_asgW ?_
      refine ⟨.ref b, rfl, b, l, 6, rfl, by decide, by decide, w3.bag, fun r H4 r0 r1 bt4 hB4 => ?_⟩
      have w4 := w3.bagTo bt4 hB4
      obtain ⟨m, rfl, hm5⟩ : ∃ m : Nat, r = (m : Int) ∧ m ≤ 5 := ⟨r.toNat, by omega, by omega⟩
      have L5 : ∀ {n : Nat}, n ≤ 6 → (ws.take n).length = n := fun {n} h => by rw [List.length_take]; omega
      have sml : ∀ {nm : List Str} {rm : Int} {pa la : List (List Str)}, nm.length ≤ 60 → pa.length ≤ 60 → la.length ≤ 60 → Sml ⟨nm, rm, pa, la⟩ := fun h1 h2 h3 => ⟨h1, h2, h3⟩
      have good : ∀ {w : Str}, w ∈ ws → isW w = true ∧ 1 ≤ w.length ∧ w.length ≤ 6 := fun {w} hw => by
        have h := gg w hw
        unfold goodW at h
        simp only [Bool.and_eq_true, decide_eq_true_eq] at h
        exact ⟨h.1, h.2.1, h.2.2.1⟩
      have nosuch : ("nosuch" : Str) ∉ ws := fun hw => by
        have h := gg _ hw
        unfold goodW at h
        simp only [Bool.and_eq_true, decide_eq_true_eq] at h
        exact h.2.2.2 rfl
      show tSeq (tFor (iList K (tSl (rSlL K) (tVar 5) tNoPart (tPart (tVar 6)))) (gName 7) (tDrop (tMeth C "do" (spDo C CF) [] E0 (tVar 4) (tCons (tTup (tCons (tC (.str "put")) (tCons (tVar 7) (tCons (tVar 2) tNil)))) tNil)))) _ _ [some (V.ref a), some (.ref b), some (.str theText), some (.int (i : Int)), some (.ref x), some (.ref W), some (.int (m : Int)), p7, p8, p9, p10, p11, p12] H4
      refine q_forNLn (xs := (ws.take m).map V.str) (by
        have z := el_slL (K := K) (te := tVar 5) (σ := [some (V.ref a), some (.ref b), some (.str theText), some (.int (i : Int)), some (.ref x), some (.ref W), some (.int (m : Int)), p7, p8, p9, p10, p11, p12]) (ev_var (H := H4) rfl) eo_none (eo_some (ev_var (i := 6) (v := .int (m : Int)) rfl)) (sq_of (w4.lst (p := (W, ws.map V.str)) (by simp)))
        rw [cut_take] at z
        exact z) (fun p j σ' H' => ∃ v7, σ' = [some (V.ref a), some (.ref b), some (.str theText), some (.int (i : Int)), some (.ref x), some (.ref W), some (.int (m : Int)), v7, p8, p9, p10, p11, p12] ∧ Wd K C T b l x ⟨ws.take j, 5, prefs ws j, []⟩ [(p, (ws.take m).map V.str), (W, ws.map V.str)] H')
        (fun p H6 hp e6 h6 => ⟨p7, rfl, let ⟨ft, w⟩ := w4; ⟨ft, (w.ex e6).add w hp h6⟩⟩) (fun p j σ' H' _ z => ?_) (fun p j y σ' H' hy z => ?_) fun p σ' H' z => ?_
      · obtain ⟨v7, _, w6⟩ := z
        exact sq_of (w6.lst (p := (p, (ws.take m).map V.str)) (by simp))
      · obtain ⟨v7, rfl, w6⟩ := z
        rw [List.getElem?_map] at hy
        obtain ⟨wd, hwd, rfl⟩ := Option.map_eq_some_iff.mp hy
        have him : j < m := by
          have := (List.getElem?_eq_some_iff.mp hwd).1
          rw [List.length_take] at this
          omega
        rw [List.getElem?_take_of_lt him] at hwd
        obtain ⟨hno, hput⟩ := take_putN gn hwd
        have hgd := good (List.mem_of_getElem? hwd)
        refine s_do (z := "put") (rest := [.str wd, .str theText]) w6 (sml (by rw [L5 (by omega)]; omega) (by rw [prefs_len]; omega) (by simp)) rfl (ea_cons ev_c (ea_cons (ev_var rfl) (ea_cons (ev_var rfl) ea_nil))) (.put wd) ⟨hgd.1, hgd.2.1, hgd.2.2, fun z => absurd z (by decide +kernel)⟩ (fun hf => ?_) fun H6 w7 => ⟨_, rfl, ?_⟩
        · have h2 : (5 : Int) ≤ ((ws.take j).length : Int) := hf.2
          rw [L5 (by omega)] at h2
          omega
        · have e1 : nmTo (ws.take j) [.str wd, .str theText] = ws.take (j + 1) := hput
          rw [prefs_succ, ← e1]
          exact w7
      · obtain ⟨v7, rfl, w6⟩ := z
        rw [List.length_map, L5 (by omega)] at w6
        have w6 := w6.less (xl2 := [(W, ws.map V.str)]) (fun q hq => by simp at hq; simp [hq])
        clear w4 w3
        refine q_asg (v := .int 5) ev_c fun H7 e7 => ?_
        refine q_forR1 (n := 6) (ea_cons ev_c ea_nil) ⟨by decide, by decide⟩ (fun _ σ' H' => ∃ r q9 q10 q11, σ' = [some (V.ref a), some (.ref b), some (.str theText), some (.int (i : Int)), some (.ref x), some (.ref W), some (.int (m : Int)), v7, some (.int r), q9, q10, q11, p12] ∧ (m : Int) ≤ r ∧ r ≤ 5 ∧ Wd K C T b l x ⟨ws.take m, r, prefs ws m, []⟩ [(W, ws.map V.str)] H')
          (fun H8 e8 => ⟨5, _, _, _, rfl, by omega, by omega, (w6.ex e7).ex e8⟩) (fun j σ' H8 hj z => ?_) fun σ' H8 z => ?_
        · obtain ⟨r, q9, q10, q11, rfl, hr1, hr2, w8⟩ := z
          refine q_asgW ?_
          refine ⟨.ref b, rfl, .ref b, rfl, b, l, 10, rfl, by decide, by decide, w8.bag, fun r1 H9 _ _ bt9 hB9 => ⟨r1, 2, rfl, rfl, .int (m : Int), rfl, .int (m : Int), rfl, (m : Int), 1, rfl, rfl, ?_⟩⟩
          have w9 := w8.bagTo bt9 hB9
          refine ⟨.ref b, rfl, 10, 18, rfl, rfl, ⟨by decide, by decide, by decide⟩, b, l, _, rfl, by decide +kernel, by decide +kernel, w9.bag, fun r2 H10 _ _ bt10 hB10 => ⟨0, r2, rfl, rfl, ?_⟩⟩
          have w10 := w9.bagTo bt10 hB10
          refine ⟨sz_of (n := 6) (by decide), fun pl hpl => ?_⟩
          have e11 := Ex.new (o := .lst [V.int (r1 - 2), .int (m : Int), .int ((m : Int) - 1), .int 5, .int 6, .int (0 - r2)]) hpl
          have w11 := w10.ex e11
          have npb : pl ≠ b := fun z => by
            obtain ⟨_, hb⟩ := w10.bag.at_
            rw [z, hb] at hpl
            cases hpl
          refine ⟨b, pl, _, l, rfl, sq_of upd_same, npb, by simp, by simp, w11.bag, fun jj xv H12 hjx bt12 hB12 => ?_⟩
          have w12 := w11.bagTo bt12 hB12
          obtain ⟨v, rfl⟩ : ∃ v, xv = .int v := by
            match jj, hjx with
            | 0, h => exact ⟨_, (Option.some.inj h).symm⟩
            | 1, h => exact ⟨_, (Option.some.inj h).symm⟩
            | 2, h => exact ⟨_, (Option.some.inj h).symm⟩
            | 3, h => exact ⟨_, (Option.some.inj h).symm⟩
            | 4, h => exact ⟨_, (Option.some.inj h).symm⟩
            | 5, h => exact ⟨_, (Option.some.inj h).symm⟩
            | n + 6, h => simp at h
          clear w9 w10 w11 hjx
          show tSeq (tAsg (tIf (tTest (tChain (rI0 fun i j => .bl (decide (i ≤ j))) (rI0 fun i j => .bl (decide (i ≤ j))) (tVar 6) (tVar 10) (tC (.int 5)))) (tTup (tCons (tC (.str "told")) (tCons (tC .non) tNil))) (tTup (tCons (tC (.str "no")) (tCons (tC (.str "Full")) (tCons (tC (.int 5)) tNil))))) (gName 11)) _ _ [some (V.ref a), some (.ref b), some (.str theText), some (.int (i : Int)), some (.ref x), some (.ref W), some (.int (m : Int)), v7, some (.int r), some (.int (j : Int)), some (.int v), q11, p12] H12
          -- what is due
          have due : ∀ D1 H13, Wd K C T b l x ⟨ws.take m, r, prefs ws m, []⟩ [(W, ws.map V.str)] H13 → ((m : Int) ≤ v ∧ v ≤ 5 → H13 D1 = some (.tup [.str "told", .non])) → (¬ ((m : Int) ≤ v ∧ v ≤ 5) → H13 D1 = some (.tup (noF (.int 5)))) → True := fun _ _ _ _ _ => trivial
          clear due
          refine q_asgU (xs := if (m : Int) ≤ v ∧ v ≤ 5 then [.str "told", .non] else noF (.int 5)) (fun H1 e Q1 q1 => ?_) fun D1 H13 nD1 e13 hD1 => ?_
          · by_cases hv : (m : Int) ≤ v ∧ v ≤ 5
            · rw [if_pos hv] at q1
              refine (et_test (ev_chain (x := (m : Int)) (y := v) (z := 5) (ev_var rfl) (ev_var rfl) ev_c)) H1 (Ex.refl _) _ fun H2 e2 => if_t (decide_eq_true hv) ?_
              exact (eu_tup (ea_cons ev_c (ea_cons ev_c ea_nil)) (show (2 : Nat) ≤ 100000 by decide)) H2 (Ex.refl _) Q1 fun p H3 np e3 hp => q1 p H3 (fresh_back e2 np) (e2.trans e3) hp
            · rw [if_neg hv] at q1
              refine (et_test (ev_chain (x := (m : Int)) (y := v) (z := 5) (ev_var rfl) (ev_var rfl) ev_c)) H1 (Ex.refl _) _ fun H2 e2 => if_f (decide_eq_false hv) ?_
              exact (eu_tup (ea_cons ev_c (ea_cons ev_c (ea_cons ev_c ea_nil))) (show (3 : Nat) ≤ 100000 by decide)) H2 (Ex.refl _) Q1 fun p H3 np e3 hp => q1 p H3 (fresh_back e2 np) (e2.trans e3) hp
          · have w13 := w12.ex e13
            refine lam_set (v := v) w13 rfl (fun H1 => ev_var rfl) (fun hv t H14 ht w14 k4 => ?_) (fun hv t H14 ht w14 k4 => ?_)
            · have hv : ¬ ((m : Int) ≤ v ∧ v ≤ 5) := fun z => hv (by rw [L5 (by omega)]; exact z)
              rw [if_neg hv] at hD1
              have hD := k4 _ _ hD1
              refine ⟨.ref D1, rfl, _, _, rfl, alk_tupF ht hD (flk_noF 5) (by simp [noF]), fun H15 e15 => ⟨true, rfl, if_f rfl ?_⟩⟩
              refine q_asg (v := .int r) (ev_if (b := false) (et_eqs (ev_t (i := 11) (j := 0) rfl (st_of (e15 _ _ hD)) rfl) ev_c (by decide +kernel)) (fun z => (nomatch z)) fun _ => ev_var rfl) fun H16 e16 => ?_
              exact s_tell ((w14.ex e15).ex e16) (sml (by rw [L5 (by omega)]; omega) (by rw [prefs_len]; omega) (by simp)) rfl rfl rfl rfl rfl (L5 (by omega)) fun H17 w17 => ⟨r, _, _, _, rfl, hr1, hr2, w17⟩
            · have hv : (m : Int) ≤ v ∧ v ≤ 5 := by
                rw [L5 (by omega)] at hv
                exact hv
              rw [if_pos hv] at hD1
              have hD := k4 _ _ hD1
              refine ⟨.ref D1, rfl, _, _, rfl, alk_tupF ht hD flk_told (by simp), fun H15 e15 => ⟨true, rfl, if_f rfl ?_⟩⟩
              refine q_asg (v := .int v) (ev_if (b := true) (et_eqs (ev_t (i := 11) (j := 0) rfl (st_of (e15 _ _ hD)) rfl) ev_c (by decide +kernel)) (fun _ => ev_var rfl) fun z => (nomatch z)) fun H16 e16 => ?_
              exact s_tell ((w14.ex e15).ex e16) (sml (by rw [L5 (by omega)]; omega) (by rw [prefs_len]; omega) (by simp)) rfl rfl rfl rfl rfl (L5 (by omega)) fun H17 w17 => ⟨v, _, _, _, rfl, hv.1, hv.2, w17⟩
        · obtain ⟨r, q9, q10, q11, rfl, hr1, hr2, w8⟩ := z
          obtain ⟨wm, hwm⟩ : ∃ wm, ws[m]? = some wm := ⟨_, List.getElem?_eq_getElem (show m < ws.length by omega)⟩
          obtain ⟨w0, hw0⟩ : ∃ w0, ws[0]? = some w0 := ⟨_, List.getElem?_eq_getElem (show 0 < ws.length by omega)⟩
          have gwm := good (List.mem_of_getElem? hwm)
          have gw0 := good (List.mem_of_getElem? hw0)
          have ix : ∀ {σ : L2.St} {H' : Hp} {S : Shf} {n : Nat} {wn : Str} {te : TE}, Wd K C T b l x S [(W, ws.map V.str)] H' → σ[5]? = some (some (.ref W)) → ws[n]? = some wn → Ev te σ H' (.int (n : Int)) → Ev (tOp (rIxL K) (tVar 5) te) σ H' (.str wn) := fun {σ H' S n wn te} hw h2 hn he => ev_ixL (i := n) (ev_var h2) he (sq_of (hw.lst (p := (W, ws.map V.str)) (by simp))) (by rw [List.getElem?_map, hn]; rfl)
          have smlm : Sml ⟨ws.take m, r, prefs ws m, []⟩ := sml (by rw [L5 (by omega)]; omega) (by rw [prefs_len]; omega) (by simp)
          have tk := take_putN gn hwm
          refine q_cut (M := fun σ' H' => ∃ u, σ' = [some (V.ref a), some (.ref b), some (.str theText), some (.int (i : Int)), some (.ref x), some (.ref W), some (.int (m : Int)), v7, some (.int r), q9, q10, q11, some (.ref u)] ∧ ((¬ (m : Int) < r ∧ H' u = some (.tup (noF (.int r))) ∧ Wd K C T b l x ⟨ws.take m, r, prefs ws m, []⟩ [(W, ws.map V.str)] H') ∨ ((m : Int) < r ∧ ∃ q, H' u = some (.tup [.str "told", .ref q]) ∧ H' q = some (.lst []) ∧ Wd K C T b l x ⟨ws.take (m + 1), r, prefs ws (m + 1), []⟩ [(W, ws.map V.str)] H'))) ?_ ?_
          · refine ⟨.ref x, rfl, ?_⟩
            refine cons_to ?_
            refine (eu_tup (σ := [some (V.ref a), some (.ref b), some (.str theText), some (.int (i : Int)), some (.ref x), some (.ref W), some (.int (m : Int)), v7, some (.int r), q9, q10, q11, p12]) (vs := [.str "put", .str wm, .str theText]) (ea_cons ev_c (ea_cons (ix w8 rfl hwm (ev_var (i := 6) rfl)) (ea_cons (ev_var (i := 2) rfl) ea_nil))) (show (3 : Nat) ≤ 100000 by decide)) H8 (Ex.refl _) _ fun t8 H9 nt8 e9 ht8 => ?_
            refine ⟨b, l, x, _, _, t8, "put", [.str wm, .str theText], rfl, w8.ex e9, smlm, ht8, .put wm, ⟨gwm.1, gwm.2.1, gwm.2.2, fun z => absurd z (by decide +kernel)⟩, fun hf u H10 hu w10 _ => ⟨u, rfl, .inl ⟨?_, hu, w10⟩⟩, fun hf u q H10 hu hq w10 _ => ⟨u, rfl, .inr ⟨?_, q, hu, hq, ?_⟩⟩⟩
            · have h2 : r ≤ ((ws.take m).length : Int) := hf.2
              rw [L5 (by omega)] at h2
              omega
            · have h2 : ¬ r ≤ ((ws.take m).length : Int) := fun z => hf ⟨tk.1, z⟩
              rw [L5 (by omega)] at h2
              omega
            · have e5 : nmTo (ws.take m) [.str wm, .str theText] = ws.take (m + 1) := tk.2
              rw [prefs_succ, ← e5]
              exact w10
          · rintro σ' H9 ⟨u, rfl, hcase⟩
            refine q_cut (M := fun σ' H' => ∃ n, m ≤ n ∧ n ≤ 6 ∧ σ' = [some (V.ref a), some (.ref b), some (.str theText), some (.int (i : Int)), some (.ref x), some (.ref W), some (.int (m : Int)), v7, some (.int r), q9, q10, q11, some (.ref u)] ∧ Wd K C T b l x ⟨ws.take n, r, prefs ws n, []⟩ [(W, ws.map V.str)] H') ?_ ?_
            · refine ⟨.ref u, rfl, ?_⟩
              rcases hcase with ⟨hlt, hu, w9⟩ | ⟨hlt, q, hu, hq, w9⟩
              · refine (et_test (ev_op (x := .int (m : Int)) (y := .int r) (ev_var (i := 6) rfl) (ev_var (i := 8) rfl) rv_I0)) H9 (Ex.refl _) _ fun H10 e10 => if_f (decide_eq_false hlt) ?_
                refine (eu_tup (vs := noF (.int r)) (ea_cons ev_c (ea_cons ev_c (ea_cons (ev_var rfl) ea_nil))) (show (3 : Nat) ≤ 100000 by decide)) H10 (Ex.refl _) _ fun t11 H11 nt11 e11 ht11 => ?_
                refine rne_same (d := dNo "Full" (.int r)) (dp_full ((e10.trans e11) _ _ hu)) (dp_full ht11) (sh_full _) (eq_full _) ⟨false, rfl, if_f rfl ⟨m, by omega, by omega, rfl, (w9.ex e10).ex e11⟩⟩
              · refine (et_test (ev_op (x := .int (m : Int)) (y := .int r) (ev_var (i := 6) rfl) (ev_var (i := 8) rfl) rv_I0)) H9 (Ex.refl _) _ fun H10 e10 => if_t (decide_eq_true hlt) ?_
                refine ⟨sz_of (n := 0) (by decide), fun q9 hq9 => ⟨sz_of (n := 2) (by decide), fun p9 hp9 => ?_⟩⟩
                have f1 := Ex.new (o := .lst []) hq9
                have f2 := Ex.new (o := .tup [V.str "told", .ref q9]) hp9
                have f12 := e10.trans (f1.trans f2)
                refine rne_same (d := dTold (.list [])) (.tup (st_of (f12 _ _ hu)) (.cons (.str _) (.cons (.lst (sq_of (f12 _ _ hq)) .nil) .nil))) (.tup (st_of upd_same) (.cons (.str _) (.cons (.lst (sq_of (f2 _ _ upd_same)) .nil) .nil))) sh_toldL eq_toldL ⟨false, rfl, if_f rfl ⟨m + 1, by omega, by omega, rfl, w9.ex f12⟩⟩
            · rintro σ' H10 ⟨n, hmn, hn6, rfl, w10⟩
              clear hcase w8
              have smln : Sml ⟨ws.take n, r, prefs ws n, []⟩ := sml (by rw [L5 hn6]; omega) (by rw [prefs_len]; omega) (by simp)
              have pre : ∀ {n : Nat}, ∀ mm ∈ prefs ws n, ∀ w ∈ mm, w ∈ ws := fun {n} mm hmm w hw => by
                unfold prefs at hmm
                obtain ⟨jj, _, rfl⟩ := List.mem_map.mp hmm
                exact List.mem_of_mem_take hw
              refine q_cut (M := fun σ' H' => ∃ S : Shf, σ' = [some (V.ref a), some (.ref b), some (.str theText), some (.int (i : Int)), some (.ref x), some (.ref W), some (.int (m : Int)), v7, some (.int r), q9, q10, q11, some (.ref u)] ∧ S.room = r ∧ (∀ w ∈ S.nm, w ∈ ws) ∧ (∀ mm ∈ S.past, ∀ w ∈ mm, w ∈ ws) ∧ Sml S ∧ (∀ mm ∈ S.past, mm.length ≤ 60) ∧ S.later = [] ∧ Wd K C T b l x S [(W, ws.map V.str)] H') ?_ ?_
              · by_cases hm0 : 0 < m
                · have w0n : w0 ∈ ws.take n := List.mem_of_getElem? (i := 0) (by rw [List.getElem?_take_of_lt (by omega)]; exact hw0)
                  refine (et_test (ev_op (x := .int (m : Int)) (y := .int 0) (ev_var (i := 6) rfl) ev_c rv_I0)) H10 (Ex.refl _) _ fun H11 e11 => if_t (decide_eq_true (by omega)) ?_
                  refine ⟨.ref x, rfl, ?_⟩
                  refine cons_to ?_
                  refine (eu_tup (σ := [some (V.ref a), some (.ref b), some (.str theText), some (.int (i : Int)), some (.ref x), some (.ref W), some (.int (m : Int)), v7, some (.int r), q9, q10, q11, some (.ref u)]) (vs := [.str "put", .str w0, .str theText]) (ea_cons ev_c (ea_cons (ix (w10.ex e11) rfl hw0 ev_c) (ea_cons (ev_var (i := 2) rfl) ea_nil))) (show (3 : Nat) ≤ 100000 by decide)) H11 (Ex.refl _) _ fun t8 H12 nt8 e12 ht8 => ?_
                  refine ⟨b, l, x, _, _, t8, "put", [.str w0, .str theText], rfl, (w10.ex e11).ex e12, smln, ht8, .put w0, ⟨gw0.1, gw0.2.1, gw0.2.2, fun z => absurd z (by decide +kernel)⟩, fun hf => absurd w0n hf.1, fun _ u2 q H13 hu hq w13 _ => ?_⟩
                  refine ⟨sz_of (n := 0) (by decide), fun q9' hq9 => ⟨sz_of (n := 2) (by decide), fun p9' hp9 => ?_⟩⟩
                  have f1 := Ex.new (o := .lst []) hq9
                  have f2 := Ex.new (o := .tup [V.str "told", .ref q9']) hp9
                  have f12 := f1.trans f2
                  have e5 : nmTo (ws.take n) [.str w0, .str theText] = ws.take n := mem_putN w0n
                  rw [show (⟨nmTo (ws.take n) [.str w0, .str theText], r, prefs ws n ++ [ws.take n], []⟩ : Shf) = ⟨ws.take n, r, prefs ws (n + 1), []⟩ by rw [e5, prefs_succ]] at w13
                  refine rne_same (d := dTold (.list [])) (.tup (st_of (f12 _ _ hu)) (.cons (.str _) (.cons (.lst (sq_of (f12 _ _ hq)) .nil) .nil))) (.tup (st_of upd_same) (.cons (.str _) (.cons (.lst (sq_of (f2 _ _ upd_same)) .nil) .nil))) sh_toldL eq_toldL ⟨false, rfl, if_f rfl ⟨_, rfl, rfl, fun w hw => List.mem_of_mem_take hw, pre, sml (by rw [L5 hn6]; omega) (by rw [prefs_len]; omega) (by simp), fun mm hmm => ?_, rfl, w13.ex f12⟩⟩
                  unfold prefs at hmm
                  obtain ⟨jj, _, rfl⟩ := List.mem_map.mp hmm
                  rw [List.length_take]
                  omega
                · refine (et_test (ev_op (x := .int (m : Int)) (y := .int 0) (ev_var (i := 6) rfl) ev_c rv_I0)) H10 (Ex.refl _) _ fun H11 e11 => if_f (decide_eq_false (by omega)) (if_f rfl ⟨_, rfl, rfl, fun w hw => List.mem_of_mem_take hw, pre, smln, fun mm hmm => ?_, rfl, w10.ex e11⟩)
                  unfold prefs at hmm
                  obtain ⟨jj, _, rfl⟩ := List.mem_map.mp hmm
                  rw [List.length_take]
                  omega
              · rintro σ' H11 ⟨S, rfl, hSr, hSn, hSp, hSs, hSl, hSla, w11⟩
                refine q_cut (M := fun σ' H' => ∃ S : Shf, σ' = [some (V.ref a), some (.ref b), some (.str theText), some (.int (i : Int)), some (.ref x), some (.ref W), some (.int (m : Int)), v7, some (.int r), q9, q10, q11, some (.ref u)] ∧ S.room = r ∧ (∀ w ∈ S.nm, w ∈ ws) ∧ Wd K C T b l x S [(W, ws.map V.str)] H') ?_ ?_
                · refine (eu_depth w11 rfl) H11 (Ex.refl _) _ fun t12 H12 nt12 e12 ht12 => ?_
                  refine ⟨t12, _, 0, .int (S.past.length : Nat), rfl, rfl, st_of ht12, (atI_nat (xs := [V.int (S.past.length : Nat), .int (S.later.length : Nat)]) (j := 0) rfl), (S.past.length : Int), 0, rfl, rfl, _, rfl, ?_⟩
                  have w12 := w11.ex e12
                  by_cases hp0 : 0 < S.past.length
                  · refine if_t (decide_eq_true (by omega)) ?_
                    have hne : S.past ≠ [] := fun z => by rw [z] at hp0; simp at hp0
                    have hpd : S.past = S.past.dropLast ++ [S.past.getLast hne] := (List.dropLast_concat_getLast hne).symm
                    refine s_undo w12 hSs hpd rfl fun H13 w13 => ⟨⟨S.past.getLast hne, S.room, S.past.dropLast, S.later ++ [S.nm]⟩, rfl, hSr, fun w hw => hSp _ (List.getLast_mem hne) w hw, w13⟩
                  · exact if_f (decide_eq_false (by omega)) ⟨S, rfl, hSr, hSn, w12⟩
                · rintro σ' H12 ⟨S, rfl, hSr, hSn, w12⟩
                  have hno : ("nosuch" : Str) ∉ S.nm := fun hw => nosuch (hSn _ hw)
                  refine (et_is (et_ne (a := .int S.room) (b := .int r) (ev_space w12 rfl) (ev_var (i := 8) rfl) rfl) (b := false) (by rw [hSr, decide_eq_true rfl]; rfl)) H12 (Ex.refl _) _ fun H13 e13 => if_f rfl ?_
                  have dpn : ∀ {H : Hp} {t : Addr}, H t = some (.tup (noP (.str "nosuch"))) → Dp K H (.ref t) (dNo "NoProgram" (.str "nosuch")) := fun h => .tup (st_of h) (.cons (.str _) (.cons (.str _) (.cons (.str _) .nil)))
                  refine lam_no (fun _ _ _ _ _ _ _ => rfl) (w12.ex e13) hno rfl fun t14 H14 ht14 w14 _ => ?_
                  refine ⟨sz_of (n := 3) (by decide), fun p15 hp15 => ?_⟩
                  have f3 := Ex.new (o := .tup [V.str "no", .str "NoProgram", .str "nosuch"]) hp15
                  refine rne_same (dpn (f3 _ _ ht14)) (dpn upd_same) sh_prog eq_prog ⟨false, rfl, if_f rfl ?_⟩
                  refine lam_no (fun _ _ _ _ _ _ _ => rfl) (w14.ex f3) hno rfl fun t16 H16 ht16 w16 _ => ?_
                  refine ⟨sz_of (n := 3) (by decide), fun p17 hp17 => ?_⟩
                  have f4 := Ex.new (o := .tup [V.str "no", .str "NoProgram", .str "nosuch"]) hp17
                  refine rne_same (dpn (f4 _ _ ht16)) (dpn upd_same) sh_prog eq_prog ⟨false, rfl, if_f rfl ?_⟩
                  have w18 := w16.ex f4
                  exact ⟨_, _, _, _, _, _, _, _, _, _, rfl, w18.bag, w18.tab⟩
    · obtain ⟨p3, p4, p5, p6, p7, p8, p9, p10, p11, p12, rfl, hB, hT3⟩ := z
      have dp : ∀ {H : Hp} {q : Addr}, H q = some (.lst [V.int 5, .int 5]) → Dp K H (.ref q) (.list [.int 5, .int 5]) := fun h => .lst (sq_of h) (.cons (.int _) (.cons (.int _) .nil))
      refine ⟨sz_of (n := 2) (by decide), fun p hp => ⟨sz_of (n := 2) (by decide), fun q hq => ?_⟩⟩
      have f2 := Ex.new (o := .lst [V.int 5, .int 5]) hq
      refine ⟨_, _, dp (f2 _ _ upd_same), dp upd_same, by decide +kernel, by decide +kernel, true, by decide +kernel, ?_⟩
      have f12 := (Ex.new (o := .lst [V.int 5, .int 5]) hp).trans f2
      exact ⟨.ref b, rfl, b, l, rfl, hB.ex f12, hT3.ext f12, fun H4 => k H4⟩
end
end Cp

/-! What the head gives; the law's contract from it. -/
namespace Cp
open PySem PySem.Spec PyProof.Rows L2 He GH
theorem fnA_ok {K : PySem.W.Frag} {a : Addr} {x q : Str} {st : Stmt} (e : fnA K a = stW x q st) (c : okA K a q = true) : ∃ fd, MeP K x q st a fd := by
  obtain ⟨kp, c⟩ := ba c
  unfold fnA stW at e
  split at e
  · rename_i oc od fd osl lk
    rw [lk] at c
    obtain ⟨k1, k2⟩ := ba (show (PySem.W.codeIn K fd.code q && (dflB K fd.defaults [] && kwdB K fd.kwdefaults [])) = true from c)
    obtain ⟨k3, k4⟩ := ba k2
    obtain ⟨n1, n2, n3, n4, n5, n6, n7, n8, n9, n10, n11, n12, n13, n14, n15⟩ := fd
    simp only [Option.some.injEq, Prod.mk.injEq] at e
    obtain ⟨rfl, rfl, rfl, rfl, rfl, rfl, rfl, rfl⟩ := e
    exact ⟨_, ⟨oc, od, n8, n9, n10, n11, n12, n13, n14, osl, rfl, lk, k1, dflB_ok k3, kwdB_ok k4⟩, kp⟩
  · cases e
theorem oexB_ok {K : PySem.W.Frag} {C : Addr} (h : oexB K C = true) : ∃ nm q N bs bm sn sub ab col dd k0 k1 k2 k3 k5, K.lookup C = some (excClassObj nm q C N bs bm true sn sub ab col dd k0 k1 k2 k3 k5 "ValueError.__new__") ∧ PySem.HandSPX.refsVE bm = true := by
  unfold oexB at h
  split at h
  · rename_i t dd cd sl ho
    rw [Bool.and_eq_true] at h
    obtain ⟨ht, h⟩ := h
    have ht := of_decide_eq_true ht
    subst ht
    split at h
    · rename_i C' bm k0 k1 k2 k3 n k5 hm hs
      simp only [Bool.and_eq_true, beq_iff_eq, Bool.not_eq_true'] at h
      obtain ⟨⟨⟨⟨rfl, rfl⟩, hdel⟩, hdict⟩, hv⟩ := h
      obtain ⟨nm, bs, mro, ns, qn, hd, sn, sub, ab, col, del⟩ := cd
      dsimp only at hm hdel hdict
      subst hm hdel hdict
      have hsl : sl = #[k0, k1, k2, k3, some (.builtin "ValueError.__new__"), k5] := by
        obtain ⟨l⟩ := sl
        simp only at hs
        rw [hs]
      subst hsl
      exact ⟨nm, qn, ns, bs, bm, sn, sub, ab, col, dd, k0, k1, k2, k3, k5, ho, hv⟩
    · cases h
  · cases h
theorem oelB_ok {K : PySem.W.Frag} {C : Addr} (h : oelB K C = true) : ∃ nm q N bs bm sn sub ab col dd k0 k1 k2 k3 k5, K.lookup C = some (excClassObj nm q C N bs bm true sn sub ab col dd k0 k1 k2 k3 k5 "LookupError.__new__") ∧ PySem.GL.refsLE bm = true := by
  unfold oelB at h
  split at h
  · rename_i t dd cd sl ho
    rw [Bool.and_eq_true] at h
    obtain ⟨ht, h⟩ := h
    have ht := of_decide_eq_true ht
    subst ht
    split at h
    · rename_i C' bm k0 k1 k2 k3 n k5 hm hs
      simp only [Bool.and_eq_true, beq_iff_eq, Bool.not_eq_true'] at h
      obtain ⟨⟨⟨⟨rfl, rfl⟩, hdel⟩, hdict⟩, hv⟩ := h
      obtain ⟨nm, bs, mro, ns, qn, hd, sn, sub, ab, col, del⟩ := cd
      dsimp only at hm hdel hdict
      subst hm hdel hdict
      have hsl : sl = #[k0, k1, k2, k3, some (.builtin "LookupError.__new__"), k5] := by
        obtain ⟨l⟩ := sl
        simp only at hs
        rw [hs]
      subst hsl
      exact ⟨nm, qn, ns, bs, bm, sn, sub, ab, col, dd, k0, k1, k2, k3, k5, ho, hv⟩
    · cases h
  · cases h
theorem dmB_ok {K : PySem.W.Frag} {d : Addr} {z : Str} {i : Int} (h : dmB K d z i = true) : ∃ u, PySem.W.nsIn K d z = some (some u) ∧ RelV (.int i) u := by
  unfold dmB at h
  cases e : PySem.W.nsIn K d z with
  | none => rw [e] at h; cases h
  | some r =>
    rw [e] at h
    cases r with
    | none => cases h
    | some u => exact ⟨u, rfl, relB_ok h⟩
theorem rcB_ok {K : PySem.W.Frag} (h : rcB K = true) : ∃ rest, PySem.W.recIn K (ma K (ga K "Shelf") "space") "property" = some (.ref (prG K) :: .ref (prS K) :: rest) := by
  unfold rcB at h
  unfold prG prS
  split at h
  · rename_i g s rest e
    rw [e]
    exact ⟨rest, rfl⟩
  · cases h
structure ExL (K : PySem.W.Frag) : Prop where
  x0 : (oexB K (ga K "Full")) = true
  x1 : (decide (PySem.W.findIn K (.ref (ga K "Full")) "__setattr__" = some (some (.builtin "object.__setattr__")))) = true
  x2 : (decide (PySem.W.subIn K (.ref (ga K "Full")) (.type "BaseException") = some true)) = true
  x3 : (decide (PySem.W.typeIn K (.ref (ga K "Full")) = some (.type "type"))) = true
  x4 : (PySem.W.keepIn K (.ref (ga K "Full"))) = true
  x5 : (xcA K (ga K "Full")) = true
  x6 : (decide (PySem.W.typeIn K (.ref (ma K (ga K "Full") "__init__")) = some (.type "function"))) = true
  x7 : (oelB K (ga K "NoProgram")) = true
  x8 : (decide (PySem.W.findIn K (.ref (ga K "NoProgram")) "__setattr__" = some (some (.builtin "object.__setattr__")))) = true
  x9 : (decide (PySem.W.subIn K (.ref (ga K "NoProgram")) (.type "BaseException") = some true)) = true
  x10 : (decide (PySem.W.typeIn K (.ref (ga K "NoProgram")) = some (.type "type"))) = true
  x11 : (PySem.W.keepIn K (.ref (ga K "NoProgram"))) = true
  x12 : (xcA K (ga K "NoProgram")) = true
  x13 : (decide (PySem.W.typeIn K (.ref (ma K (ga K "NoProgram") "__init__")) = some (.type "function"))) = true
  x14 : (decide (PySem.W.kitOne K (.ref (ga K "Full")) (.ref (ga K "BadKind")) = some false)) = true
  x15 : (decide (PySem.W.kitOne K (.ref (ga K "Full")) (.ref (ga K "BadProgram")) = some false)) = true
  x16 : (decide (PySem.W.kitOne K (.ref (ga K "Full")) (.ref (ga K "BadMark")) = some false)) = true
  x17 : (decide (PySem.W.kitOne K (.ref (ga K "Full")) (.ref (ga K "BadText")) = some false)) = true
  x18 : (decide (PySem.W.kitOne K (.ref (ga K "Full")) (.ref (ga K "BadField")) = some false)) = true
  x19 : (decide (PySem.W.kitOne K (.ref (ga K "Full")) (.ref (ga K "BadCell")) = some false)) = true
  x20 : (decide (PySem.W.kitOne K (.ref (ga K "Full")) (.ref (ga K "BadRule")) = some false)) = true
  x21 : (decide (PySem.W.kitOne K (.ref (ga K "Full")) (.ref (ga K "Barren")) = some false)) = true
  x22 : (decide (PySem.W.kitOne K (.ref (ga K "Full")) (.ref (ga K "Stopped")) = some false)) = true
  x23 : (decide (PySem.W.findIn K (.ref (ga K "Shelf")) "space" = some (some (.ref (ma K (ga K "Shelf") "space"))))) = true
  x24 : (decide (PySem.W.specialIn K (.ref (ma K (ga K "Shelf") "space")) "__get__" = some (some (.builtin "property.__get__")))) = true
  x25 : (decide (PySem.W.takesIn K (.ref (ma K (ga K "Shelf") "space")) = some true)) = true
  x26 : (rcB K) = true
  x27 : (decide (PySem.W.takerIn K (ga K "Shelf") "space" = some (some (.ref (ma K (ga K "Shelf") "space"))))) = true
  x28 : (decide (PySem.W.typeIn K (.ref (ma K (ga K "Shelf") "space")) = some (.type "property"))) = true
  x29 : (okA K (prG K) "Shelf.space") = true
  x30 : (okA K (prS K) "Shelf.space") = true
  x31 : (dmB K (ga K "DEEDS") "put" 3) = true
  x32 : (dmB K (ga K "DEEDS") "copy" 3) = true
  x33 : (dmB K (ga K "DEEDS") "drop" 2) = true
  x34 : (decide (tabA K "law" ≠ tabA K "_law_asked")) = true
  x35 : (decide (tabA K "law" ≠ tabA K "_law_beyond_space")) = true
  x36 : (decide (tabA K "_law_asked" ≠ tabA K "_law_beyond_space")) = true
theorem exL_ok {K : PySem.W.Frag} (h : exL K = true) : ExL K := by
  unfold exL at h
  obtain ⟨x0, h⟩ := ba h
  obtain ⟨x1, h⟩ := ba h
  obtain ⟨x2, h⟩ := ba h
  obtain ⟨x3, h⟩ := ba h
  obtain ⟨x4, h⟩ := ba h
  obtain ⟨x5, h⟩ := ba h
  obtain ⟨x6, h⟩ := ba h
  obtain ⟨x7, h⟩ := ba h
  obtain ⟨x8, h⟩ := ba h
  obtain ⟨x9, h⟩ := ba h
  obtain ⟨x10, h⟩ := ba h
  obtain ⟨x11, h⟩ := ba h
  obtain ⟨x12, h⟩ := ba h
  obtain ⟨x13, h⟩ := ba h
  obtain ⟨x14, h⟩ := ba h
  obtain ⟨x15, h⟩ := ba h
  obtain ⟨x16, h⟩ := ba h
  obtain ⟨x17, h⟩ := ba h
  obtain ⟨x18, h⟩ := ba h
  obtain ⟨x19, h⟩ := ba h
  obtain ⟨x20, h⟩ := ba h
  obtain ⟨x21, h⟩ := ba h
  obtain ⟨x22, h⟩ := ba h
  obtain ⟨x23, h⟩ := ba h
  obtain ⟨x24, h⟩ := ba h
  obtain ⟨x25, h⟩ := ba h
  obtain ⟨x26, h⟩ := ba h
  obtain ⟨x27, h⟩ := ba h
  obtain ⟨x28, h⟩ := ba h
  obtain ⟨x29, h⟩ := ba h
  obtain ⟨x30, h⟩ := ba h
  obtain ⟨x31, h⟩ := ba h
  obtain ⟨x32, h⟩ := ba h
  obtain ⟨x33, h⟩ := ba h
  obtain ⟨x34, h⟩ := ba h
  obtain ⟨x35, h⟩ := ba h
  exact ⟨x0, x1, x2, x3, x4, x5, x6, x7, x8, x9, x10, x11, x12, x13, x14, x15, x16, x17, x18, x19, x20, x21, x22, x23, x24, x25, x26, x27, x28, x29, x30, x31, x32, x33, x34, x35, h⟩
/-- the table's pairs -/
def tL (K : PySem.W.Frag) : List (Addr × Str) := [(tabA K "law", lawQ), (tabA K "_law_asked", askQ), (tabA K "_law_beyond_space", beyQ)]
structure CodeT (base : Heap) (mg : Str → Option Value) (K : PySem.W.Frag) (x : Str) : Prop where
  tb : LamX.TabB base mg (codeOf K (x, none)) (tabA K x)
section
variable {P : Program} {w : World} {K : PySem.W.Frag} {mg : Str → Option Value} {base : Heap} {cA : Addr} {oc dV kV doc pm ct : Value} {od an : Option Addr} {osl : Array (Option Value)}
theorem law_ok (c : SaysT faL fnL tsL w K) (more : exL K = true) (eG : fnA K (prG K) = stW "space" "Shelf.space" (mS 21)) (eS : fnA K (prS K) = stW "space" "Shelf.space" (mS 22)) (X : K.In base) (G : base.Ns mainGlobals mg) (lk : K.lookup (ga K "law") = some ⟨oc, od, .func (PySem.W.fnOf "law" "law" (defArgs (top 106)) (defBody (top 106)) (defScope (top 106)) dV kV doc pm an (.ref cA) ct), osl⟩)
    (hcd : PySem.W.codeIn K (.ref cA) "law" = true) (T1 : LamX.TabB base mg cA (tabA K "law")) (T2 : CodeT base mg K "_law_asked") (T3 : CodeT base mg K "_law_beyond_space") : FnOk P w K mg base CX0 20 (ga K "law") (PySem.W.fnOf "law" "law" (defArgs (top 106)) (defBody (top 106)) (defScope (top 106)) dV kV doc pm an (.ref cA) ct) ["_law_script"] (spLaw K (tL K)) := by
  have e := exL_ok more
  obtain ⟨d_bodies_of, F_bodies_of⟩ : ∃ fd, FnP K "bodies_of" (top 35) [] (ga K "bodies_of") fd := c.d.def_ 0 rfl
  obtain ⟨d_count_in, F_count_in⟩ : ∃ fd, FnP K "count_in" (top 36) [] (ga K "count_in") fd := c.d.def_ 1 rfl
  obtain ⟨d_nesting_of, F_nesting_of⟩ : ∃ fd, FnP K "nesting_of" (top 37) [] (ga K "nesting_of") fd := c.d.def_ 2 rfl
  obtain ⟨d_numbered, F_numbered⟩ : ∃ fd, FnP K "numbered" (top 38) [] (ga K "numbered") fd := c.d.def_ 3 rfl
  obtain ⟨d_laid, F_laid⟩ : ∃ fd, FnP K "laid" (top 39) [] (ga K "laid") fd := c.d.def_ 4 rfl
  obtain ⟨d_rows_of, F_rows_of⟩ : ∃ fd, FnP K "rows_of" (top 40) [] (ga K "rows_of") fd := c.d.def_ 5 rfl
  obtain ⟨d_comes_to_end, F_comes_to_end⟩ : ∃ fd, FnP K "comes_to_end" (top 45) [] (ga K "comes_to_end") fd := c.d.def_ 6 rfl
  obtain ⟨d_returning, F_returning⟩ : ∃ fd, FnP K "returning" (top 46) [] (ga K "returning") fd := c.d.def_ 7 rfl
  obtain ⟨d_is_word, F_is_word⟩ : ∃ fd, FnP K "is_word" (top 29) [] (ga K "is_word") fd := c.d.def_ 8 rfl
  obtain ⟨d_plain_body, F_plain_body⟩ : ∃ fd, FnP K "plain_body" (top 78) [] (ga K "plain_body") fd := c.d.def_ 9 rfl
  obtain ⟨d_read_program, F_read_program⟩ : ∃ fd, FnP K "read_program" (top 90) [] (ga K "read_program") fd := c.d.def_ 10 rfl
  obtain ⟨d__law_bag, F__law_bag⟩ : ∃ fd, FnP K "_law_bag" (top 97) [] (ga K "_law_bag") fd := c.d.def_ 11 rfl
  obtain ⟨d__law_take, F__law_take⟩ : ∃ fd, FnP K "_law_take" (top 98) [] (ga K "_law_take") fd := c.d.def_ 12 rfl
  obtain ⟨d__law_pick, F__law_pick⟩ : ∃ fd, FnP K "_law_pick" (top 99) [] (ga K "_law_pick") fd := c.d.def_ 13 rfl
  obtain ⟨d__law_alike, F__law_alike⟩ : ∃ fd, FnP K "_law_alike" (top 100) [] (ga K "_law_alike") fd := c.d.def_ 14 rfl
  obtain ⟨d__law_tried, F__law_tried⟩ : ∃ fd, FnP K "_law_tried" (top 101) [] (ga K "_law_tried") fd := c.d.def_ 15 rfl
  obtain ⟨d__law_fields, F__law_fields⟩ : ∃ fd, FnP K "_law_fields" (top 102) [] (ga K "_law_fields") fd := c.d.def_ 16 rfl
  obtain ⟨d__law_words, F__law_words⟩ : ∃ fd, FnP K "_law_words" (top 103) [] (ga K "_law_words") fd := c.d.def_ 17 rfl
  obtain ⟨d__law_asked, F__law_asked⟩ : ∃ fd, FnP K "_law_asked" (top 104) [] (ga K "_law_asked") fd := c.d.def_ 18 rfl
  obtain ⟨d__law_beyond_space, F__law_beyond_space⟩ : ∃ fd, FnP K "_law_beyond_space" (top 105) [] (ga K "_law_beyond_space") fd := c.d.def_ 19 rfl
  obtain ⟨d_Full___init__, F_Full___init__⟩ : ∃ fd, MeP K "__init__" "Full.__init__" (inClass (top 17) 0) (ma K (ga K "Full") "__init__") fd := c.d.def_ 21 rfl
  obtain ⟨d_NoProgram___init__, F_NoProgram___init__⟩ : ∃ fd, MeP K "__init__" "NoProgram.__init__" (inClass (top 21) 0) (ma K (ga K "NoProgram") "__init__") fd := c.d.def_ 22 rfl
  obtain ⟨d_Kinds___init__, F_Kinds___init__⟩ : ∃ fd, MeP K "__init__" "Kinds.__init__" (inClass (top 30) 0) (ma K (ga K "Kinds") "__init__") fd := c.d.def_ 23 rfl
  obtain ⟨d_Kinds_may_follow, F_Kinds_may_follow⟩ : ∃ fd, MeP K "may_follow" "Kinds.may_follow" (inClass (top 30) 5) (ma K (ga K "Kinds") "may_follow") fd := c.d.def_ 24 rfl
  obtain ⟨d_Program___init__, F_Program___init__⟩ : ∃ fd, MeP K "__init__" "Program.__init__" (inClass (top 81) 0) (ma K (ga K "Program") "__init__") fd := c.d.def_ 25 rfl
  obtain ⟨d_Program_check_ends, F_Program_check_ends⟩ : ∃ fd, MeP K "check_ends" "Program.check_ends" (inClass (top 81) 1) (ma K (ga K "Program") "check_ends") fd := c.d.def_ 26 rfl
  obtain ⟨d_Program_head_fits, F_Program_head_fits⟩ : ∃ fd, MeP K "head_fits" "Program.head_fits" (inClass (top 81) 5) (ma K (ga K "Program") "head_fits") fd := c.d.def_ 27 rfl
  obtain ⟨d_Reader___init__, F_Reader___init__⟩ : ∃ fd, MeP K "__init__" "Reader.__init__" (inClass (top 89) 0) (ma K (ga K "Reader") "__init__") fd := c.d.def_ 28 rfl
  obtain ⟨d_Reader_first_word, F_Reader_first_word⟩ : ∃ fd, MeP K "first_word" "Reader.first_word" (inClass (top 89) 1) (ma K (ga K "Reader") "first_word") fd := c.d.def_ 29 rfl
  obtain ⟨d_Reader_taken, F_Reader_taken⟩ : ∃ fd, MeP K "taken" "Reader.taken" (inClass (top 89) 2) (ma K (ga K "Reader") "taken") fd := c.d.def_ 30 rfl
  obtain ⟨d_Reader_kind_row, F_Reader_kind_row⟩ : ∃ fd, MeP K "kind_row" "Reader.kind_row" (inClass (top 89) 4) (ma K (ga K "Reader") "kind_row") fd := c.d.def_ 31 rfl
  obtain ⟨d_Reader_body, F_Reader_body⟩ : ∃ fd, MeP K "body" "Reader.body" (inClass (top 89) 8) (ma K (ga K "Reader") "body") fd := c.d.def_ 32 rfl
  obtain ⟨d_Reader_names_of, F_Reader_names_of⟩ : ∃ fd, MeP K "names_of" "Reader.names_of" (inClass (top 89) 9) (ma K (ga K "Reader") "names_of") fd := c.d.def_ 33 rfl
  obtain ⟨d_Reader_procedure_row, F_Reader_procedure_row⟩ : ∃ fd, MeP K "procedure_row" "Reader.procedure_row" (inClass (top 89) 10) (ma K (ga K "Reader") "procedure_row") fd := c.d.def_ 34 rfl
  obtain ⟨d_Shelf___init__, F_Shelf___init__⟩ : ∃ fd, MeP K "__init__" "Shelf.__init__" (inClass (top 95) 0) (ma K (ga K "Shelf") "__init__") fd := c.d.def_ 35 rfl
  obtain ⟨d_Shelf___len__, F_Shelf___len__⟩ : ∃ fd, MeP K "__len__" "Shelf.__len__" (inClass (top 95) 1) (ma K (ga K "Shelf") "__len__") fd := c.d.def_ 36 rfl
  obtain ⟨d_Shelf_restore, F_Shelf_restore⟩ : ∃ fd, MeP K "restore" "Shelf.restore" (inClass (top 95) 6) (ma K (ga K "Shelf") "restore") fd := c.d.def_ 37 rfl
  obtain ⟨d_Shelf_kept_state, F_Shelf_kept_state⟩ : ∃ fd, MeP K "kept_state" "Shelf.kept_state" (inClass (top 95) 7) (ma K (ga K "Shelf") "kept_state") fd := c.d.def_ 38 rfl
  obtain ⟨d_Shelf_names, F_Shelf_names⟩ : ∃ fd, MeP K "names" "Shelf.names" (inClass (top 95) 8) (ma K (ga K "Shelf") "names") fd := c.d.def_ 39 rfl
  obtain ⟨d_Shelf_program, F_Shelf_program⟩ : ∃ fd, MeP K "program" "Shelf.program" (inClass (top 95) 9) (ma K (ga K "Shelf") "program") fd := c.d.def_ 40 rfl
  obtain ⟨d_Shelf_values_kept, F_Shelf_values_kept⟩ : ∃ fd, MeP K "values_kept" "Shelf.values_kept" (inClass (top 95) 13) (ma K (ga K "Shelf") "values_kept") fd := c.d.def_ 41 rfl
  obtain ⟨d_Shelf_check, F_Shelf_check⟩ : ∃ fd, MeP K "check" "Shelf.check" (inClass (top 95) 14) (ma K (ga K "Shelf") "check") fd := c.d.def_ 42 rfl
  obtain ⟨d_Shelf_need_word, F_Shelf_need_word⟩ : ∃ fd, MeP K "need_word" "Shelf.need_word" (inClass (top 95) 15) (ma K (ga K "Shelf") "need_word") fd := c.d.def_ 43 rfl
  obtain ⟨d_Shelf_place, F_Shelf_place⟩ : ∃ fd, MeP K "place" "Shelf.place" (inClass (top 95) 16) (ma K (ga K "Shelf") "place") fd := c.d.def_ 44 rfl
  obtain ⟨d_Shelf_act, F_Shelf_act⟩ : ∃ fd, MeP K "act" "Shelf.act" (inClass (top 95) 17) (ma K (ga K "Shelf") "act") fd := c.d.def_ 45 rfl
  obtain ⟨d_Shelf_step, F_Shelf_step⟩ : ∃ fd, MeP K "step" "Shelf.step" (inClass (top 95) 18) (ma K (ga K "Shelf") "step") fd := c.d.def_ 46 rfl
  obtain ⟨d_Shelf_do, F_Shelf_do⟩ : ∃ fd, MeP K "do" "Shelf.do" (inClass (top 95) 19) (ma K (ga K "Shelf") "do") fd := c.d.def_ 47 rfl
  obtain ⟨d_Shelf_set_space, F_Shelf_set_space⟩ : ∃ fd, MeP K "set_space" "Shelf.set_space" (inClass (top 95) 23) (ma K (ga K "Shelf") "set_space") fd := c.d.def_ 48 rfl
  obtain ⟨d_Shelf_undo, F_Shelf_undo⟩ : ∃ fd, MeP K "undo" "Shelf.undo" (inClass (top 95) 24) (ma K (ga K "Shelf") "undo") fd := c.d.def_ 49 rfl
  obtain ⟨d_Shelf_redo, F_Shelf_redo⟩ : ∃ fd, MeP K "redo" "Shelf.redo" (inClass (top 95) 25) (ma K (ga K "Shelf") "redo") fd := c.d.def_ 50 rfl
  obtain ⟨d_Shelf_depth, F_Shelf_depth⟩ : ∃ fd, MeP K "depth" "Shelf.depth" (inClass (top 95) 26) (ma K (ga K "Shelf") "depth") fd := c.d.def_ 51 rfl
  obtain ⟨d_Shelf_text_of, F_Shelf_text_of⟩ : ∃ fd, MeP K "text_of" "Shelf.text_of" (inClass (top 95) 28) (ma K (ga K "Shelf") "text_of") fd := c.d.def_ 52 rfl
  obtain ⟨d_get, F_get⟩ := fnA_ok eG e.x29
  obtain ⟨d_set, F_set⟩ := fnA_ok eS e.x30
  have b_bodies_of := F_bodies_of.bindsN (ps := ["statement"]) fun _ _ _ _ _ _ us hl => match us, hl with | [_], _ => rfl
  have b_count_in := F_count_in.bindsN (ps := ["body"]) fun _ _ _ _ _ _ us hl => match us, hl with | [_], _ => rfl
  have b_nesting_of := F_nesting_of.bindsN (ps := ["body"]) fun _ _ _ _ _ _ us hl => match us, hl with | [_], _ => rfl
  have b_numbered := F_numbered.bindsN (ps := ["body", "first"]) fun _ _ _ _ _ _ us hl => match us, hl with | [_, _], _ => rfl
  have b_laid := F_laid.bindsN (ps := ["body", "first", "after"]) fun _ _ _ _ _ _ us hl => match us, hl with | [_, _, _], _ => rfl
  have b_rows_of := F_rows_of.bindsN (ps := ["statement", "at", "follow"]) fun _ _ _ _ _ _ us hl => match us, hl with | [_, _, _], _ => rfl
  have b_comes_to_end := F_comes_to_end.bindsN (ps := ["rows", "known"]) fun _ _ _ _ _ _ us hl => match us, hl with | [_, _], _ => rfl
  have b_returning := F_returning.bindsN (ps := ["rows_by"]) fun _ _ _ _ _ _ us hl => match us, hl with | [_], _ => rfl
  have b_is_word := F_is_word.bindsN (ps := ["text"]) fun _ _ _ _ _ _ us hl => match us, hl with | [_], _ => rfl
  have b_plain_body := F_plain_body.bindsN (ps := ["body"]) fun _ _ _ _ _ _ us hl => match us, hl with | [_], _ => rfl
  have b_read_program := F_read_program.bindsN (ps := ["text"]) fun _ _ _ _ _ _ us hl => match us, hl with | [_], _ => rfl
  have b__law_bag := F__law_bag.bindsN (ps := ["_law_script"]) fun _ _ _ _ _ _ us hl => match us, hl with | [_], _ => rfl
  have b__law_take := F__law_take.bindsN (ps := ["_law_bag_here", "_law_many"]) fun _ _ _ _ _ _ us hl => match us, hl with | [_, _], _ => rfl
  have b__law_pick := F__law_pick.bindsN (ps := ["_law_bag_here", "_law_some"]) fun _ _ _ _ _ _ us hl => match us, hl with | [_, _], _ => rfl
  have b__law_alike := F__law_alike.bindsN (ps := ["_law_found", "_law_due"]) fun _ _ _ _ _ _ us hl => match us, hl with | [_, _], _ => rfl
  have b__law_tried := F__law_tried.bindsN (ps := ["_law_ask"]) fun _ _ _ _ _ _ us hl => match us, hl with | [_], _ => rfl
  have b__law_fields := F__law_fields.bindsN (ps := ["_law_e"]) fun _ _ _ _ _ _ us hl => match us, hl with | [_], _ => rfl
  have b__law_words := F__law_words.bindsN (ps := ["_law_bag_here", "_law_many"]) fun _ _ _ _ _ _ us hl => match us, hl with | [_, _], _ => rfl
  have b__law_asked := F__law_asked.bindsN (ps := ["_law_shelf", "_law_deed"]) fun _ _ _ _ _ _ us hl => match us, hl with | [_, _], _ => rfl
  have b__law_beyond_space := F__law_beyond_space.bindsN (ps := ["_law_bag_here"]) fun _ _ _ _ _ _ us hl => match us, hl with | [_], _ => rfl
  have b_Full___init__ := F_Full___init__.bindsN (ps := ["self", "bound"]) fun _ _ _ _ _ _ us hl => match us, hl with | [_, _], _ => rfl
  have b_NoProgram___init__ := F_NoProgram___init__.bindsN (ps := ["self", "name"]) fun _ _ _ _ _ _ us hl => match us, hl with | [_, _], _ => rfl
  have b_Kinds___init__ := F_Kinds___init__.bindsN (ps := ["self", "rows"]) fun _ _ _ _ _ _ us hl => match us, hl with | [_, _], _ => rfl
  have b_Kinds_may_follow := F_Kinds_may_follow.bindsN (ps := ["self", "name", "fields"]) fun _ _ _ _ _ _ us hl => match us, hl with | [_, _, _], _ => rfl
  have b_Program___init__ := F_Program___init__.bindsN (ps := ["self", "kinds", "procedures"]) fun _ _ _ _ _ _ us hl => match us, hl with | [_, _, _], _ => rfl
  have b_Program_check_ends := F_Program_check_ends.bindsN (ps := ["self"]) fun _ _ _ _ _ _ us hl => match us, hl with | [_], _ => rfl
  have b_Program_head_fits := F_Program_head_fits.bindsN (ps := ["self", "at", "name", "takes", "has", "gives"]) fun _ _ _ _ _ _ us hl => match us, hl with | [_, _, _, _, _, _], _ => rfl
  have b_Reader___init__ := F_Reader___init__.bindsN (ps := ["self", "rows"]) fun _ _ _ _ _ _ us hl => match us, hl with | [_, _], _ => rfl
  have b_Reader_first_word := F_Reader_first_word.bindsN (ps := ["self"]) fun _ _ _ _ _ _ us hl => match us, hl with | [_], _ => rfl
  have b_Reader_taken := F_Reader_taken.bindsN (ps := ["self", "many"]) fun _ _ _ _ _ _ us hl => match us, hl with | [_, _], _ => rfl
  have b_Reader_kind_row := F_Reader_kind_row.bindsN (ps := ["self"]) fun _ _ _ _ _ _ us hl => match us, hl with | [_], _ => rfl
  have b_Reader_body := F_Reader_body.bindsN (ps := ["self", "ends"]) fun _ _ _ _ _ _ us hl => match us, hl with | [_, _], _ => rfl
  have b_Reader_names_of := F_Reader_names_of.bindsN (ps := ["self", "word"]) fun _ _ _ _ _ _ us hl => match us, hl with | [_, _], _ => rfl
  have b_Reader_procedure_row := F_Reader_procedure_row.bindsN (ps := ["self"]) fun _ _ _ _ _ _ us hl => match us, hl with | [_], _ => rfl
  have b_Shelf___init__ := F_Shelf___init__.bindsN (ps := ["self"]) fun _ _ _ _ _ _ us hl => match us, hl with | [_], _ => rfl
  have b_Shelf___len__ := F_Shelf___len__.bindsN (ps := ["self"]) fun _ _ _ _ _ _ us hl => match us, hl with | [_], _ => rfl
  have b_Shelf_restore := F_Shelf_restore.bindsN (ps := ["self", "state"]) fun _ _ _ _ _ _ us hl => match us, hl with | [_, _], _ => rfl
  have b_Shelf_kept_state := F_Shelf_kept_state.bindsN (ps := ["self"]) fun _ _ _ _ _ _ us hl => match us, hl with | [_], _ => rfl
  have b_Shelf_names := F_Shelf_names.bindsN (ps := ["self"]) fun _ _ _ _ _ _ us hl => match us, hl with | [_], _ => rfl
  have b_Shelf_program := F_Shelf_program.bindsN (ps := ["self", "name"]) fun _ _ _ _ _ _ us hl => match us, hl with | [_, _], _ => rfl
  have b_Shelf_values_kept := F_Shelf_values_kept.bindsN (ps := ["self"]) fun _ _ _ _ _ _ us hl => match us, hl with | [_], _ => rfl
  have b_Shelf_check := F_Shelf_check.bindsN (ps := ["self", "deed"]) fun _ _ _ _ _ _ us hl => match us, hl with | [_, _], _ => rfl
  have b_Shelf_need_word := F_Shelf_need_word.bindsN (ps := ["self", "name"]) fun _ _ _ _ _ _ us hl => match us, hl with | [_, _], _ => rfl
  have b_Shelf_place := F_Shelf_place.bindsN (ps := ["self", "name", "program"]) fun _ _ _ _ _ _ us hl => match us, hl with | [_, _, _], _ => rfl
  have b_Shelf_act := F_Shelf_act.bindsN (ps := ["self", "deed"]) fun _ _ _ _ _ _ us hl => match us, hl with | [_, _], _ => rfl
  have b_Shelf_step := F_Shelf_step.bindsN (ps := ["self", "deeds"]) fun _ _ _ _ _ _ us hl => match us, hl with | [_, _], _ => rfl
  have b_Shelf_do := F_Shelf_do.bindsN (ps := ["self", "deed"]) fun _ _ _ _ _ _ us hl => match us, hl with | [_, _], _ => rfl
  have b_Shelf_set_space := F_Shelf_set_space.bindsN (ps := ["self", "value"]) fun _ _ _ _ _ _ us hl => match us, hl with | [_, _], _ => rfl
  have b_Shelf_undo := F_Shelf_undo.bindsN (ps := ["self"]) fun _ _ _ _ _ _ us hl => match us, hl with | [_], _ => rfl
  have b_Shelf_redo := F_Shelf_redo.bindsN (ps := ["self"]) fun _ _ _ _ _ _ us hl => match us, hl with | [_], _ => rfl
  have b_Shelf_depth := F_Shelf_depth.bindsN (ps := ["self"]) fun _ _ _ _ _ _ us hl => match us, hl with | [_], _ => rfl
  have b_Shelf_text_of := F_Shelf_text_of.bindsN (ps := ["self", "name"]) fun _ _ _ _ _ _ us hl => match us, hl with | [_, _], _ => rfl
  have b_get := F_get.bindsN (ps := ["self"]) fun _ _ _ _ _ _ us hl => match us, hl with | [_], _ => rfl
  have b_set := F_set.bindsN (ps := ["self", "value"]) fun _ _ _ _ _ _ us hl => match us, hl with | [_, _], _ => rfl
  have f_len := free_ok X G (c.d.fact 0 (f := Fa.free "len") rfl)
  have f_range := free_ok X G (c.d.fact 1 (f := Fa.free "range") rfl)
  have f_max := free_ok X G (c.d.fact 2 (f := Fa.free "max") rfl)
  have f_sum := free_ok X G (c.d.fact 3 (f := Fa.free "sum") rfl)
  have f_list := free_ok X G (c.d.fact 4 (f := Fa.free "list") rfl)
  have f_all := free_ok X G (c.d.fact 5 (f := Fa.free "all") rfl)
  have f_set := free_ok X G (c.d.fact 6 (f := Fa.free "set") rfl)
  have f_tuple := free_ok X G (c.d.fact 7 (f := Fa.free "tuple") rfl)
  have f_enumerate := free_ok X G (c.d.fact 8 (f := Fa.free "enumerate") rfl)
  have f_isinstance := free_ok X G (c.d.fact 9 (f := Fa.free "isinstance") rfl)
  have f_dict := free_ok X G (c.d.fact 10 (f := Fa.free "dict") rfl)
  have f_int := free_ok X G (c.d.fact 11 (f := Fa.free "int") rfl)
  have f_sorted := free_ok X G (c.d.fact 12 (f := Fa.free "sorted") rfl)
  have f_bool := free_ok X G (c.d.fact 13 (f := Fa.free "bool") rfl)
  have f_str := free_ok X G (c.d.fact 14 (f := Fa.free "str") rfl)
  obtain ⟨t_PROGRAMS, i_PROGRAMS⟩ := int_ok X G (c.d.fact 15 (f := Fa.int "PROGRAMS" 5) rfl)
  obtain ⟨t_WISHES, i_WISHES⟩ := int_ok X G (c.d.fact 16 (f := Fa.int "WISHES" 5) rfl)
  obtain ⟨t_KINDS, i_KINDS⟩ := int_ok X G (c.d.fact 17 (f := Fa.int "KINDS" 4) rfl)
  obtain ⟨t_FIELDS, i_FIELDS⟩ := int_ok X G (c.d.fact 18 (f := Fa.int "FIELDS" 3) rfl)
  obtain ⟨t_SIZE, i_SIZE⟩ := int_ok X G (c.d.fact 19 (f := Fa.int "SIZE" 8) rfl)
  obtain ⟨t_PROCEDURES, i_PROCEDURES⟩ := int_ok X G (c.d.fact 20 (f := Fa.int "PROCEDURES" 4) rfl)
  obtain ⟨t_NAMES, i_NAMES⟩ := int_ok X G (c.d.fact 21 (f := Fa.int "NAMES" 4) rfl)
  obtain ⟨t_STATEMENTS, i_STATEMENTS⟩ := int_ok X G (c.d.fact 22 (f := Fa.int "STATEMENTS" 14) rfl)
  obtain ⟨t_NESTING, i_NESTING⟩ := int_ok X G (c.d.fact 23 (f := Fa.int "NESTING" 3) rfl)
  obtain ⟨t_LETTERS, i_LETTERS⟩ := str_ok X G (c.d.fact 24 (f := Fa.str "LETTERS" "abcdefghijklmnopqrstuvwxyz") rfl)
  have g_bodies_of := glo_ok X G (c.d.fact 25 (f := Fa.glo "bodies_of") rfl)
  have g_count_in := glo_ok X G (c.d.fact 26 (f := Fa.glo "count_in") rfl)
  have g_nesting_of := glo_ok X G (c.d.fact 27 (f := Fa.glo "nesting_of") rfl)
  have g_numbered := glo_ok X G (c.d.fact 28 (f := Fa.glo "numbered") rfl)
  have g_laid := glo_ok X G (c.d.fact 29 (f := Fa.glo "laid") rfl)
  have g_rows_of := glo_ok X G (c.d.fact 30 (f := Fa.glo "rows_of") rfl)
  have g_comes_to_end := glo_ok X G (c.d.fact 31 (f := Fa.glo "comes_to_end") rfl)
  have g_returning := glo_ok X G (c.d.fact 32 (f := Fa.glo "returning") rfl)
  have g_is_word := glo_ok X G (c.d.fact 33 (f := Fa.glo "is_word") rfl)
  have g_plain_body := glo_ok X G (c.d.fact 34 (f := Fa.glo "plain_body") rfl)
  have g_read_program := glo_ok X G (c.d.fact 35 (f := Fa.glo "read_program") rfl)
  have g__law_bag := glo_ok X G (c.d.fact 36 (f := Fa.glo "_law_bag") rfl)
  have g__law_take := glo_ok X G (c.d.fact 37 (f := Fa.glo "_law_take") rfl)
  have g__law_pick := glo_ok X G (c.d.fact 38 (f := Fa.glo "_law_pick") rfl)
  have g__law_alike := glo_ok X G (c.d.fact 39 (f := Fa.glo "_law_alike") rfl)
  have g__law_tried := glo_ok X G (c.d.fact 40 (f := Fa.glo "_law_tried") rfl)
  have g__law_fields := glo_ok X G (c.d.fact 41 (f := Fa.glo "_law_fields") rfl)
  have g__law_words := glo_ok X G (c.d.fact 42 (f := Fa.glo "_law_words") rfl)
  have g__law_asked := glo_ok X G (c.d.fact 43 (f := Fa.glo "_law_asked") rfl)
  have g__law_beyond_space := glo_ok X G (c.d.fact 44 (f := Fa.glo "_law_beyond_space") rfl)
  have g_DEEDS := glo_ok X G (c.d.fact 46 (f := Fa.glo "DEEDS") rfl)
  have g_program_text := glo_ok X G (c.d.fact 47 (f := Fa.glo "program_text") rfl)
  have g_Kinds := glo_ok X G (c.d.fact 48 (f := Fa.glo "Kinds") rfl)
  have g_Program := glo_ok X G (c.d.fact 49 (f := Fa.glo "Program") rfl)
  have g_Reader := glo_ok X G (c.d.fact 50 (f := Fa.glo "Reader") rfl)
  have g_Shelf := glo_ok X G (c.d.fact 51 (f := Fa.glo "Shelf") rfl)
  have g_BadKind := glo_ok X G (c.d.fact 52 (f := Fa.glo "BadKind") rfl)
  have g_BadProgram := glo_ok X G (c.d.fact 53 (f := Fa.glo "BadProgram") rfl)
  have g_BadMark := glo_ok X G (c.d.fact 54 (f := Fa.glo "BadMark") rfl)
  have g_BadText := glo_ok X G (c.d.fact 55 (f := Fa.glo "BadText") rfl)
  have g_BadField := glo_ok X G (c.d.fact 56 (f := Fa.glo "BadField") rfl)
  have g_BadCell := glo_ok X G (c.d.fact 57 (f := Fa.glo "BadCell") rfl)
  have g_BadRule := glo_ok X G (c.d.fact 58 (f := Fa.glo "BadRule") rfl)
  have g_Barren := glo_ok X G (c.d.fact 59 (f := Fa.glo "Barren") rfl)
  have g_TooWide := glo_ok X G (c.d.fact 60 (f := Fa.glo "TooWide") rfl)
  have g_Full := glo_ok X G (c.d.fact 61 (f := Fa.glo "Full") rfl)
  have g_Stopped := glo_ok X G (c.d.fact 62 (f := Fa.glo "Stopped") rfl)
  have g_NoKind := glo_ok X G (c.d.fact 63 (f := Fa.glo "NoKind") rfl)
  have g_NoProcedure := glo_ok X G (c.d.fact 64 (f := Fa.glo "NoProcedure") rfl)
  have g_NoProgram := glo_ok X G (c.d.fact 65 (f := Fa.glo "NoProgram") rfl)
  have c_Kinds := cls_ok (c.d.fact 66 (f := Fa.cls "Kinds") rfl)
  have mk_Kinds := mkr_ok (c.d.fact 118 (f := Fa.mkr "Kinds") rfl)
  have c_Program := cls_ok (c.d.fact 67 (f := Fa.cls "Program") rfl)
  have mk_Program := mkr_ok (c.d.fact 119 (f := Fa.mkr "Program") rfl)
  have c_Reader := cls_ok (c.d.fact 68 (f := Fa.cls "Reader") rfl)
  have mk_Reader := mkr_ok (c.d.fact 120 (f := Fa.mkr "Reader") rfl)
  have c_Shelf := cls_ok (c.d.fact 69 (f := Fa.cls "Shelf") rfl)
  have mk_Shelf := mkr_ok (c.d.fact 121 (f := Fa.mkr "Shelf") rfl)
  have n_Kinds_forms := noat_ok (c.d.fact 70 (f := Fa.noat "Kinds" "forms") rfl)
  have n_Kinds_sizes := noat_ok (c.d.fact 71 (f := Fa.noat "Kinds" "sizes") rfl)
  have n_Program_table := noat_ok (c.d.fact 72 (f := Fa.noat "Program" "table") rfl)
  have n_Program_signs := noat_ok (c.d.fact 73 (f := Fa.noat "Program" "signs") rfl)
  have n_Program_texts := noat_ok (c.d.fact 74 (f := Fa.noat "Program" "texts") rfl)
  have n_Program_code := noat_ok (c.d.fact 75 (f := Fa.noat "Program" "code") rfl)
  have n_Reader_lines := noat_ok (c.d.fact 76 (f := Fa.noat "Reader" "lines") rfl)
  have n_Reader_at := noat_ok (c.d.fact 77 (f := Fa.noat "Reader" "at") rfl)
  have n_Reader_inside := noat_ok (c.d.fact 78 (f := Fa.noat "Reader" "inside") rfl)
  have n_Shelf_programs := noat_ok (c.d.fact 79 (f := Fa.noat "Shelf" "programs") rfl)
  have n_Shelf_wishes := noat_ok (c.d.fact 80 (f := Fa.noat "Shelf" "wishes") rfl)
  have n_Shelf_number := noat_ok (c.d.fact 81 (f := Fa.noat "Shelf" "number") rfl)
  have n_Shelf_room := noat_ok (c.d.fact 82 (f := Fa.noat "Shelf" "room") rfl)
  have n_Shelf_past := noat_ok (c.d.fact 83 (f := Fa.noat "Shelf" "past") rfl)
  have n_Shelf_later := noat_ok (c.d.fact 84 (f := Fa.noat "Shelf" "later") rfl)
  have n_Shelf_done := noat_ok (c.d.fact 85 (f := Fa.noat "Shelf" "done") rfl)
  have n_Full_bound := noat_ok (c.d.fact 86 (f := Fa.noat "Full" "bound") rfl)
  have n_Full_tag := noat_ok (c.d.fact 87 (f := Fa.noat "Full" "tag") rfl)
  have n_NoProgram_name := noat_ok (c.d.fact 88 (f := Fa.noat "NoProgram" "name") rfl)
  have n_NoProgram_tag := noat_ok (c.d.fact 89 (f := Fa.noat "NoProgram" "tag") rfl)
  have m_Full___init__ := meth_ok (c.d.fact 90 (f := Fa.meth "Full" "__init__") rfl)
  have m_NoProgram___init__ := meth_ok (c.d.fact 91 (f := Fa.meth "NoProgram" "__init__") rfl)
  have m_Kinds_may_follow := meth_ok (c.d.fact 92 (f := Fa.meth "Kinds" "may_follow") rfl)
  have m_Program_check_ends := meth_ok (c.d.fact 93 (f := Fa.meth "Program" "check_ends") rfl)
  have m_Program_head_fits := meth_ok (c.d.fact 94 (f := Fa.meth "Program" "head_fits") rfl)
  have m_Reader_first_word := meth_ok (c.d.fact 95 (f := Fa.meth "Reader" "first_word") rfl)
  have m_Reader_taken := meth_ok (c.d.fact 96 (f := Fa.meth "Reader" "taken") rfl)
  have m_Reader_kind_row := meth_ok (c.d.fact 97 (f := Fa.meth "Reader" "kind_row") rfl)
  have m_Reader_body := meth_ok (c.d.fact 98 (f := Fa.meth "Reader" "body") rfl)
  have m_Reader_names_of := meth_ok (c.d.fact 99 (f := Fa.meth "Reader" "names_of") rfl)
  have m_Reader_procedure_row := meth_ok (c.d.fact 100 (f := Fa.meth "Reader" "procedure_row") rfl)
  have m_Shelf___len__ := meth_ok (c.d.fact 101 (f := Fa.meth "Shelf" "__len__") rfl)
  have m_Shelf_restore := meth_ok (c.d.fact 102 (f := Fa.meth "Shelf" "restore") rfl)
  have m_Shelf_kept_state := meth_ok (c.d.fact 103 (f := Fa.meth "Shelf" "kept_state") rfl)
  have m_Shelf_names := meth_ok (c.d.fact 104 (f := Fa.meth "Shelf" "names") rfl)
  have m_Shelf_program := meth_ok (c.d.fact 105 (f := Fa.meth "Shelf" "program") rfl)
  have m_Shelf_values_kept := meth_ok (c.d.fact 106 (f := Fa.meth "Shelf" "values_kept") rfl)
  have m_Shelf_check := meth_ok (c.d.fact 107 (f := Fa.meth "Shelf" "check") rfl)
  have m_Shelf_need_word := meth_ok (c.d.fact 108 (f := Fa.meth "Shelf" "need_word") rfl)
  have m_Shelf_place := meth_ok (c.d.fact 109 (f := Fa.meth "Shelf" "place") rfl)
  have m_Shelf_act := meth_ok (c.d.fact 110 (f := Fa.meth "Shelf" "act") rfl)
  have m_Shelf_step := meth_ok (c.d.fact 111 (f := Fa.meth "Shelf" "step") rfl)
  have m_Shelf_do := meth_ok (c.d.fact 112 (f := Fa.meth "Shelf" "do") rfl)
  have m_Shelf_set_space := meth_ok (c.d.fact 113 (f := Fa.meth "Shelf" "set_space") rfl)
  have m_Shelf_undo := meth_ok (c.d.fact 114 (f := Fa.meth "Shelf" "undo") rfl)
  have m_Shelf_redo := meth_ok (c.d.fact 115 (f := Fa.meth "Shelf" "redo") rfl)
  have m_Shelf_depth := meth_ok (c.d.fact 116 (f := Fa.meth "Shelf" "depth") rfl)
  have m_Shelf_text_of := meth_ok (c.d.fact 117 (f := Fa.meth "Shelf" "text_of") rfl)
  have k_program_text := keep_ok (c.d.fact 122 (f := Fa.keep "program_text") rfl)
  obtain ⟨es, nE, KD⟩ := c.tab 0 (t := (fun K => ga K "DEEDS", ["put", "copy", "drop", "mark", "unmark", "wish", "unwish"])) rfl
  have pc : PC K (ga K "Program") := ⟨c_Program, n_Program_table, n_Program_signs, n_Program_texts, n_Program_code⟩
  have kc : KC K (ga K "Kinds") := ⟨c_Kinds, n_Kinds_forms, n_Kinds_sizes⟩
  have rc : RC K (ga K "Reader") := ⟨c_Reader, n_Reader_lines, n_Reader_at, n_Reader_inside⟩
  have sc : SC K (ga K "Shelf") := ⟨c_Shelf, n_Shelf_programs, n_Shelf_wishes, n_Shelf_number, n_Shelf_room, n_Shelf_past, n_Shelf_later, n_Shelf_done⟩
  have oeF : OexC K (ga K "Full") := ⟨oexB_ok e.x0, (of_decide_eq_true e.x1), (of_decide_eq_true e.x2), (of_decide_eq_true e.x3), e.x4⟩
  have xc_Full : XcC K (ga K "Full") := xcB_ok (show xcB K (ga K "Full") = true from e.x5)
  have oeN : OexL K (ga K "NoProgram") := ⟨oelB_ok e.x7, (of_decide_eq_true e.x8), (of_decide_eq_true e.x9), (of_decide_eq_true e.x10), e.x11⟩
  have xc_NoProgram : XcC K (ga K "NoProgram") := xcB_ok (show xcB K (ga K "NoProgram") = true from e.x12)
  have G_Full___init__ := ok_Fu (P := P) (w := w) (mg := mg) (base := base) F_Full___init__ oeF n_Full_bound n_Full_tag
  have G_NoProgram___init__ := ok_Np (P := P) (w := w) (mg := mg) (base := base) F_NoProgram___init__ oeN n_NoProgram_name n_NoProgram_tag
  have FU : Oex P w K mg base "Full" (ga K "Full") ["self", "bound"] (spFu (ga K "Full")) := ⟨_, _, oeF, m_Full___init__.1, (of_decide_eq_true e.x6), G_Full___init__, b_Full___init__, g_Full⟩
  have NP : OexN P w K mg base "NoProgram" (ga K "NoProgram") ["self", "name"] (spNp (ga K "NoProgram")) := ⟨_, _, oeN, m_NoProgram___init__.1, (of_decide_eq_true e.x13), G_NoProgram___init__, b_NoProgram___init__, g_NoProgram⟩
  have G_bodies_of := ok_bodies (P := P) (w := w) (base := base) F_bodies_of f_len
  have G_count_in := ok_count F_count_in G_bodies_of g_bodies_of F_bodies_of.kp b_bodies_of f_sum
  have G_nesting_of := ok_nest F_nesting_of G_bodies_of g_bodies_of F_bodies_of.kp b_bodies_of f_max
  have G_rows_of := ok_row F_rows_of G_bodies_of g_bodies_of F_bodies_of.kp b_bodies_of f_len
  have G_laid := ok_laid F_laid G_count_in g_count_in F_count_in.kp b_count_in G_rows_of g_rows_of F_rows_of.kp b_rows_of f_len f_enumerate
  have G_comes_to_end := ok_ends (P := P) (w := w) (base := base) F_comes_to_end f_len
  have G_returning := ok_ret F_returning G_comes_to_end g_comes_to_end F_comes_to_end.kp b_comes_to_end
  have G_is_word := ok_word (P := P) (w := w) (base := base) F_is_word f_len f_all i_LETTERS
  have C_bodies_of : Cal P w K mg base "bodies_of" 1 ["statement"] (spBodies K) := ⟨_, _, G_bodies_of, g_bodies_of, F_bodies_of.kp, b_bodies_of⟩
  have C_count_in : Cal P w K mg base "count_in" 2 ["body"] (spCount K) := ⟨_, _, G_count_in, g_count_in, F_count_in.kp, b_count_in⟩
  have C_nesting_of : Cal P w K mg base "nesting_of" 2 ["body"] (spNest K) := ⟨_, _, G_nesting_of, g_nesting_of, F_nesting_of.kp, b_nesting_of⟩
  have C_laid : Cal P w K mg base "laid" 3 ["body", "first", "after"] (spLaid K) := ⟨_, _, G_laid, g_laid, F_laid.kp, b_laid⟩
  have C_returning : Cal P w K mg base "returning" 2 ["rows_by"] (spRet K) := ⟨_, _, G_returning, g_returning, F_returning.kp, b_returning⟩
  have C_is_word : Cal P w K mg base "is_word" 1 ["text"] spWord := ⟨_, _, G_is_word, g_is_word, F_is_word.kp, b_is_word⟩
  have G_Kinds_may_follow := ok_may F_Kinds_may_follow kc G_is_word g_is_word F_is_word.kp b_is_word f_len f_all f_set i_FIELDS
  have G_Kinds___init__ := ok_ki F_Kinds___init__ kc m_Kinds_may_follow G_Kinds_may_follow b_Kinds_may_follow f_len f_enumerate f_sum i_KINDS i_SIZE
  have G_Program_head_fits := ok_hf F_Program_head_fits pc C_is_word f_len f_all f_set f_list i_NAMES
  have M_Program_head_fits : Mcal P w K mg base (ga K "Program") "head_fits" CX0 2 ["self", "at", "name", "takes", "has", "gives"] (spHf K (ga K "Program")) := ⟨_, _, m_Program_head_fits, G_Program_head_fits, b_Program_head_fits⟩
  have G_Program_check_ends := ok_ce F_Program_check_ends pc C_returning f_enumerate
  have M_Program_check_ends : Mcal P w K mg base (ga K "Program") "check_ends" CX0 3 ["self"] (spCe K (ga K "Program")) := ⟨_, _, m_Program_check_ends, G_Program_check_ends, b_Program_check_ends⟩
  have G_plain_body := ok_bd0 (P := P) (w := w) (base := base) F_plain_body f_tuple
  have C_plain_body : Cal P w K mg base "plain_body" 1 ["body"] (spBd0 K) := ⟨_, _, G_plain_body, g_plain_body, F_plain_body.kp, b_plain_body⟩
  have G_Program___init__ := ok_pi F_Program___init__ pc M_Program_head_fits M_Program_check_ends C_count_in C_nesting_of C_bodies_of C_plain_body C_laid F_numbered g_numbered b_numbered f_len f_enumerate i_PROCEDURES i_STATEMENTS i_NESTING
  have K_Kinds : Make P w K mg base (ga K "Kinds") "Kinds" CX0 3 ["self", "rows"] (spKi K (ga K "Kinds")) := ⟨_, _, mk_Kinds, G_Kinds___init__, g_Kinds, b_Kinds___init__⟩
  have K_Program : Make P w K mg base (ga K "Program") "Program" (CX P w) 8 ["self", "kinds", "procedures"] (spPi K (ga K "Program")) := ⟨_, _, mk_Program, G_Program___init__, g_Program, b_Program___init__⟩
  have G_Reader___init__ := ok_ri (P := P) (w := w) (mg := mg) (base := base) F_Reader___init__ rc
  have K_Reader : Make P w K mg base (ga K "Reader") "Reader" CX0 1 ["self", "rows"] (spRi (ga K "Reader")) := ⟨_, _, mk_Reader, G_Reader___init__, g_Reader, b_Reader___init__⟩
  have G_Reader_first_word := ok_fw (P := P) (w := w) (base := base) F_Reader_first_word rc f_len
  have M_Reader_first_word : Mcal P w K mg base (ga K "Reader") "first_word" CX0 1 ["self"] (spFw K (ga K "Reader")) := ⟨_, _, m_Reader_first_word, G_Reader_first_word, b_Reader_first_word⟩
  have G_Reader_taken := ok_tk (P := P) (w := w) (base := base) F_Reader_taken rc f_len
  have M_Reader_taken : Mcal P w K mg base (ga K "Reader") "taken" CX0 1 ["self", "many"] (spTk K (ga K "Reader")) := ⟨_, _, m_Reader_taken, G_Reader_taken, b_Reader_taken⟩
  have G_Reader_kind_row := ok_kr F_Reader_kind_row rc M_Reader_taken f_len
  have M_Reader_kind_row : Mcal P w K mg base (ga K "Reader") "kind_row" CX0 2 ["self"] (spKr K (ga K "Reader")) := ⟨_, _, m_Reader_kind_row, G_Reader_kind_row, b_Reader_kind_row⟩
  have G_Reader_names_of := ok_no F_Reader_names_of rc M_Reader_first_word
  have M_Reader_names_of : Mcal P w K mg base (ga K "Reader") "names_of" CX0 2 ["self", "word"] (spNo K (ga K "Reader")) := ⟨_, _, m_Reader_names_of, G_Reader_names_of, b_Reader_names_of⟩
  have G_Reader_body := ok_bo F_Reader_body rc M_Reader_first_word f_tuple
  have M_Reader_body : Mcal P w K mg base (ga K "Reader") "body" CX0 2 ["self", "ends"] (spBo K (ga K "Reader")) := ⟨_, _, m_Reader_body, G_Reader_body, b_Reader_body⟩
  have G_Reader_procedure_row := ok_pr F_Reader_procedure_row rc M_Reader_first_word M_Reader_taken M_Reader_names_of M_Reader_body
  have M_Reader_procedure_row : Mcal P w K mg base (ga K "Reader") "procedure_row" CX0 3 ["self"] (spPr K (ga K "Reader")) := ⟨_, _, m_Reader_procedure_row, G_Reader_procedure_row, b_Reader_procedure_row⟩
  have G_read_program := ok_rp F_read_program rc K_Reader K_Kinds K_Program M_Reader_first_word M_Reader_kind_row M_Reader_procedure_row f_len
  have C_read_program : Cal P w K mg base "read_program" 10 ["text"] spRp := ⟨_, _, G_read_program, g_read_program, F_read_program.kp, b_read_program⟩
  have G_Shelf___init__ := (ok_si (P := P) (w := w) (base := base) F_Shelf___init__ sc i_PROGRAMS).imp shi_of
  have K_Shelf : Make P w K mg base (ga K "Shelf") "Shelf" CX0 1 ["self"] (spShi (ga K "Shelf")) := ⟨_, _, mk_Shelf, G_Shelf___init__, g_Shelf, b_Shelf___init__⟩
  have G_Shelf_kept_state := ok_ks (P := P) (w := w) (base := base) F_Shelf_kept_state sc f_dict
  have M_Shelf_kept_state : Mcal P w K mg base (ga K "Shelf") "kept_state" CX0 1 ["self"] (spKs (ga K "Shelf")) := ⟨_, _, m_Shelf_kept_state, G_Shelf_kept_state, b_Shelf_kept_state⟩
  have G_Shelf_depth := (ok_dp (P := P) (w := w) (base := base) F_Shelf_depth sc f_len).imp dep_of
  have M_Shelf_depth : Mcal P w K mg base (ga K "Shelf") "depth" CX0 1 ["self"] (spDep (ga K "Shelf")) := ⟨_, _, m_Shelf_depth, G_Shelf_depth, b_Shelf_depth⟩
  have G_Shelf_names := (ok_nm (P := P) (w := w) (base := base) F_Shelf_names sc f_sorted f_list).imp nam_of
  have M_Shelf_names : Mcal P w K mg base (ga K "Shelf") "names" CX0 1 ["self"] (spNam (ga K "Shelf")) := ⟨_, _, m_Shelf_names, G_Shelf_names, b_Shelf_names⟩
  have G_Shelf___len__ := (ok_sl (P := P) (w := w) (base := base) F_Shelf___len__ sc f_len).imp len_of
  have G_Shelf_place := ok_pc F_Shelf_place sc FU f_len
  have M_Shelf_place : Mcal P w K mg base (ga K "Shelf") "place" (L2N.CX P w) 3 ["self", "name", "program"] (spPc (ga K "Shelf") (ga K "Full")) := ⟨_, _, m_Shelf_place, G_Shelf_place, b_Shelf_place⟩
  have G_Shelf_program := ok_pg F_Shelf_program sc NP
  have M_Shelf_program : Mcal P w K mg base (ga K "Shelf") "program" (CX P w) 3 ["self", "name"] (spPg (ga K "Shelf") (ga K "NoProgram")) := ⟨_, _, m_Shelf_program, G_Shelf_program, b_Shelf_program⟩
  have M_prog_tx : Mcal P w K mg base (ga K "Shelf") "program" (CX P w) 3 ["self", "name"] (spTx (ga K "Shelf") (ga K "NoProgram")) := ⟨_, _, m_Shelf_program, (G_Shelf_program.imp pgn_of), b_Shelf_program⟩
  have G_Shelf_need_word := ok_nw F_Shelf_need_word C_is_word
  have M_Shelf_need_word : Mcal P w K mg base (ga K "Shelf") "need_word" CX0 2 ["self", "name"] spNw := ⟨_, _, m_Shelf_need_word, G_Shelf_need_word, b_Shelf_need_word⟩
  have G_Shelf_restore := ok_rs (P := P) (w := w) (mg := mg) (base := base) F_Shelf_restore sc
  have M_Shelf_restore : Mcal P w K mg base (ga K "Shelf") "restore" CX0 1 ["self", "state"] (spRs K (ga K "Shelf")) := ⟨_, _, m_Shelf_restore, G_Shelf_restore, b_Shelf_restore⟩
  have G_Shelf_undo := (ok_un F_Shelf_undo sc M_Shelf_kept_state M_Shelf_restore f_len).imp und_of
  have M_Shelf_undo : Mcal P w K mg base (ga K "Shelf") "undo" CX0 2 ["self"] (spUnd (ga K "Shelf")) := ⟨_, _, m_Shelf_undo, G_Shelf_undo, b_Shelf_undo⟩
  have G_Shelf_redo := (ok_re F_Shelf_redo sc M_Shelf_kept_state M_Shelf_restore f_len).imp red_of
  have M_Shelf_redo : Mcal P w K mg base (ga K "Shelf") "redo" CX0 2 ["self"] (spRed (ga K "Shelf")) := ⟨_, _, m_Shelf_redo, G_Shelf_redo, b_Shelf_redo⟩
  have hF : Deeds K (ga K "DEEDS") := fun z hz => by
    simp only [List.mem_cons, List.not_mem_nil, or_false] at hz
    rcases hz with rfl | rfl | rfl
    · exact dmB_ok e.x31
    · exact dmB_ok e.x32
    · exact dmB_ok e.x33
  have G_Shelf_check := ok_ck (P := P) (w := w) (base := base) F_Shelf_check f_isinstance f_tuple f_str f_len g_DEEDS KD hF
  have M_Shelf_check : Mcal P w K mg base (ga K "Shelf") "check" CX0 1 ["self", "deed"] (spCk K) := ⟨_, _, m_Shelf_check, G_Shelf_check, b_Shelf_check⟩
  have G_Shelf_values_kept := ok_vk (P := P) (w := w) (mg := mg) (base := base) F_Shelf_values_kept sc
  have M_Shelf_values_kept : Mcal P w K mg base (ga K "Shelf") "values_kept" CX0 1 ["self"] (spVk (ga K "Shelf")) := ⟨_, _, m_Shelf_values_kept, G_Shelf_values_kept, b_Shelf_values_kept⟩
  have G_Shelf_act := ok_ac F_Shelf_act sc M_Shelf_check M_Shelf_need_word M_Shelf_place M_Shelf_program C_read_program
  have M_Shelf_act : Mcal P w K mg base (ga K "Shelf") "act" (L2N.CX P w) 11 ["self", "deed"] (spAc K (ga K "Shelf") (ga K "Full")) := ⟨_, _, m_Shelf_act, G_Shelf_act, b_Shelf_act⟩
  have G_Shelf_step := ok_st F_Shelf_step sc M_Shelf_kept_state M_Shelf_values_kept M_Shelf_act f_sorted f_list
  have M_Shelf_step : Mcal P w K mg base (ga K "Shelf") "step" (CX P w) 12 ["self", "deeds"] (spSt K (ga K "Shelf") (ga K "Full")) := ⟨_, _, m_Shelf_step, G_Shelf_step, b_Shelf_step⟩
  have G_Shelf_do := ok_do F_Shelf_do sc M_Shelf_step
  have M_Shelf_do : Mcal P w K mg base (ga K "Shelf") "do" (CX P w) 13 ["self", "deed"] (spDo (ga K "Shelf") (ga K "Full")) := ⟨_, _, m_Shelf_do, G_Shelf_do, b_Shelf_do⟩
  have G_get := ok_spg (P := P) (w := w) (mg := mg) (base := base) F_get sc
  have G_set := ok_sps F_set sc FU f_len i_PROGRAMS
  obtain ⟨rest, rec⟩ := rcB_ok e.x26
  have PO : PropOf K (ga K "Shelf") "space" (ma K (ga K "Shelf") "space") (prG K) := ⟨(of_decide_eq_true e.x23), (of_decide_eq_true e.x24), (of_decide_eq_true e.x25), ⟨_, rec⟩⟩
  have PT : GP.PropSet K (ga K "Shelf") "space" (ma K (ga K "Shelf") "space") (prS K) := ⟨(of_decide_eq_true e.x27), (of_decide_eq_true e.x28), ⟨_, _, rec⟩⟩
  have G_Shelf_set_space := ok_set F_Shelf_set_space sc PT G_set b_set
  have M_Shelf_set_space : Mcal P w K mg base (ga K "Shelf") "set_space" (CX P w) 6 ["self", "value"] (spSps (ga K "Shelf") (ga K "Full")) := ⟨_, _, m_Shelf_set_space, G_Shelf_set_space, b_Shelf_set_space⟩
  have G_Shelf_text_of := ok_tx F_Shelf_text_of sc M_Shelf_program g_program_text k_program_text
  have M_Shelf_text_of : Mcal P w K mg base (ga K "Shelf") "text_of" (CX P w) 4 ["self", "name"] (spTx (ga K "Shelf") (ga K "NoProgram")) := ⟨_, _, m_Shelf_text_of, G_Shelf_text_of, b_Shelf_text_of⟩
  have G__law_take := ok_take (P := P) (w := w) (base := base) F__law_take f_len f_int
  have C__law_take : Cal P w K mg base "_law_take" 1 ["_law_bag_here", "_law_many"] (spTake K) := ⟨_, _, G__law_take, g__law_take, F__law_take.kp, b__law_take⟩
  have G__law_pick := ok_pick F__law_pick C__law_take f_len
  have C__law_pick : Cal P w K mg base "_law_pick" 2 ["_law_bag_here", "_law_some"] (spPick K) := ⟨_, _, G__law_pick, g__law_pick, F__law_pick.kp, b__law_pick⟩
  have G__law_bag := ok_bag (P := P) (w := w) (base := base) F__law_bag f_int f_list
  have C__law_bag : Cal P w K mg base "_law_bag" 1 ["_law_script"] (spBag K) := ⟨_, _, G__law_bag, g__law_bag, F__law_bag.kp, b__law_bag⟩
  have G__law_words := ok_wd F__law_words C__law_take C__law_pick f_int f_range
  have C__law_words : Cal P w K mg base "_law_words" 3 ["_law_bag_here", "_law_many"] (spWords K) := ⟨_, _, G__law_words, g__law_words, F__law_words.kp, b__law_words⟩
  have G_al0 := ok_al0 (P := P) (w := w) (base := base) F__law_alike f_isinstance f_list f_tuple f_bool f_int f_str
  have G_al1 := ok_al1 F__law_alike f_isinstance f_list f_tuple f_bool f_int f_str f_len f_all f_range g__law_alike F__law_alike.kp b__law_alike G_al0
  have G__law_alike := ok_al1 F__law_alike f_isinstance f_list f_tuple f_bool f_int f_str f_len f_all f_range g__law_alike F__law_alike.kp b__law_alike G_al1
  have C__law_alike : Cal P w K mg base "_law_alike" 3 ["_law_found", "_law_due"] (spAl 2) := ⟨_, _, G__law_alike, g__law_alike, F__law_alike.kp, b__law_alike⟩
  have NI : Nine K mg (ga K "Full") := ⟨_, _, _, _, _, _, _, _, _, g_BadKind, g_BadProgram, g_BadMark, g_BadText, g_BadField, g_BadCell, g_BadRule, g_Barren, g_Stopped, (of_decide_eq_true e.x14), (of_decide_eq_true e.x15), (of_decide_eq_true e.x16), (of_decide_eq_true e.x17), (of_decide_eq_true e.x18), (of_decide_eq_true e.x19), (of_decide_eq_true e.x20), (of_decide_eq_true e.x21), (of_decide_eq_true e.x22)⟩
  have G__law_fields := ok_flds (P := P) (w := w) (base := base) F__law_fields xc_Full NI f_isinstance n_Full_tag n_Full_bound
  obtain ⟨ocT, odT, dVT, kVT, docT, pmT, anT, cdT, ctT, oslT, rfl, lkT, hcT, _, _⟩ := F__law_tried.ex
  have TR : Trd P w K mg base (ga K "Full") (ga K "NoProgram") := ⟨_, ocT, odT, oslT, dVT, kVT, docT, pmT, anT, cdT, ctT, lkT, hcT, g__law_tried, F__law_tried.kp, b__law_tried, [.ref (ga K "BadKind"), .ref (ga K "BadProgram"), .ref (ga K "BadMark"), .ref (ga K "BadText"), .ref (ga K "BadField"), .ref (ga K "BadCell"), .ref (ga K "BadRule"), .ref (ga K "Barren"), .ref (ga K "TooWide"), .ref (ga K "Full"), .ref (ga K "Stopped")], [.ref (ga K "NoKind"), .ref (ga K "NoProcedure"), .ref (ga K "NoProgram")], ⟨g_BadKind, g_BadProgram, g_BadMark, g_BadText, g_BadField, g_BadCell, g_BadRule, g_Barren, g_TooWide, g_Full, g_Stopped⟩, ⟨g_NoKind, g_NoProcedure, g_NoProgram⟩, ⟨exm_ok (c.d.fact 123 (f := Fa.exm "Full" "BadKind" false) rfl), exm_ok (c.d.fact 124 (f := Fa.exm "Full" "BadProgram" false) rfl), exm_ok (c.d.fact 125 (f := Fa.exm "Full" "BadMark" false) rfl), exm_ok (c.d.fact 126 (f := Fa.exm "Full" "BadText" false) rfl), exm_ok (c.d.fact 127 (f := Fa.exm "Full" "BadField" false) rfl), exm_ok (c.d.fact 128 (f := Fa.exm "Full" "BadCell" false) rfl), exm_ok (c.d.fact 129 (f := Fa.exm "Full" "BadRule" false) rfl), exm_ok (c.d.fact 130 (f := Fa.exm "Full" "Barren" false) rfl), exm_ok (c.d.fact 131 (f := Fa.exm "Full" "TooWide" false) rfl), exm_ok (c.d.fact 132 (f := Fa.exm "Full" "Full" true) rfl), exm_ok (c.d.fact 133 (f := Fa.exm "Full" "Stopped" false) rfl)⟩, ⟨exm_ok (c.d.fact 134 (f := Fa.exm "NoProgram" "BadKind" false) rfl), exm_ok (c.d.fact 135 (f := Fa.exm "NoProgram" "BadProgram" false) rfl), exm_ok (c.d.fact 136 (f := Fa.exm "NoProgram" "BadMark" false) rfl), exm_ok (c.d.fact 137 (f := Fa.exm "NoProgram" "BadText" false) rfl), exm_ok (c.d.fact 138 (f := Fa.exm "NoProgram" "BadField" false) rfl), exm_ok (c.d.fact 139 (f := Fa.exm "NoProgram" "BadCell" false) rfl), exm_ok (c.d.fact 140 (f := Fa.exm "NoProgram" "BadRule" false) rfl), exm_ok (c.d.fact 141 (f := Fa.exm "NoProgram" "Barren" false) rfl), exm_ok (c.d.fact 142 (f := Fa.exm "NoProgram" "TooWide" false) rfl), exm_ok (c.d.fact 143 (f := Fa.exm "NoProgram" "Full" false) rfl), exm_ok (c.d.fact 144 (f := Fa.exm "NoProgram" "Stopped" false) rfl)⟩, ⟨exm_ok (c.d.fact 145 (f := Fa.exm "NoProgram" "NoKind" false) rfl), exm_ok (c.d.fact 146 (f := Fa.exm "NoProgram" "NoProcedure" false) rfl), exm_ok (c.d.fact 147 (f := Fa.exm "NoProgram" "NoProgram" true) rfl)⟩, xc_NoProgram, n_NoProgram_tag, n_NoProgram_name, _, _, G__law_fields, g__law_fields, F__law_fields.kp, b__law_fields⟩
  have h12 : tabA K "law" ≠ tabA K "_law_asked" := (of_decide_eq_true e.x34)
  have h13 : tabA K "law" ≠ tabA K "_law_beyond_space" := (of_decide_eq_true e.x35)
  have h23 : tabA K "_law_asked" ≠ tabA K "_law_beyond_space" := (of_decide_eq_true e.x36)
  have u1 : ∀ p ∈ tL K, p.1 = tabA K "law" → p.2 = lawQ := fun p hp h => by
    simp only [tL, List.mem_cons, List.not_mem_nil, or_false] at hp
    rcases hp with rfl | rfl | rfl
    · rfl
    · exact absurd h.symm h12
    · exact absurd h.symm h13
  have u2 : ∀ p ∈ tL K, p.1 = tabA K "_law_asked" → p.2 = askQ := fun p hp h => by
    simp only [tL, List.mem_cons, List.not_mem_nil, or_false] at hp
    rcases hp with rfl | rfl | rfl
    · exact absurd h h12
    · rfl
    · exact absurd h.symm h23
  have u3 : ∀ p ∈ tL K, p.1 = tabA K "_law_beyond_space" → p.2 = beyQ := fun p hp h => by
    simp only [tL, List.mem_cons, List.not_mem_nil, or_false] at hp
    rcases hp with rfl | rfl | rfl
    · exact absurd h h13
    · exact absurd h h23
    · rfl
  have m1 : (tabA K "law", lawQ) ∈ tL K := List.mem_cons_self
  have m2 : (tabA K "_law_asked", askQ) ∈ tL K := List.mem_cons_of_mem _ List.mem_cons_self
  have m3 : (tabA K "_law_beyond_space", beyQ) ∈ tL K := List.mem_cons_of_mem _ (List.mem_cons_of_mem _ List.mem_cons_self)
  obtain ⟨ocA, odA, dVA, kVA, docA, pmA, anA, cdA, ctA, oslA, rfl, lkA, hcA, _, _⟩ := F__law_asked.ex
  obtain ⟨cA, rfl⟩ := codeIn_ref hcA
  have tA := T2.tb
  rw [codeOf_eq (p := ("_law_asked", none)) lkA rfl] at tA
  obtain ⟨ocB, odB, dVB, kVB, docB, pmB, anB, cdB, ctB, oslB, rfl, lkB, hcB, _, _⟩ := F__law_beyond_space.ex
  obtain ⟨cB, rfl⟩ := codeIn_ref hcB
  have tB := T3.tb
  rw [codeOf_eq (p := ("_law_beyond_space", none)) lkB rfl] at tB
  have G__law_asked := ok_ask lkA hcA TR tA m2 u2 sc M_Shelf_do
  have LP : LawP P w K mg base (ga K "Shelf") (ga K "Full") (ga K "NoProgram") (tL K) := ⟨sc, K_Shelf, C__law_take, C__law_pick, C__law_words, M_Shelf_do, M_Shelf_undo, M_Shelf_redo, M_Shelf_names, M_Shelf_depth, M_Shelf_set_space, M_prog_tx, M_Shelf_text_of, _, _, m_Shelf___len__.1, m_Shelf___len__.2, G_Shelf___len__, b_Shelf___len__, _, _, _, PO, G_get, b_get, C__law_alike, ⟨_, _, G__law_asked, g__law_asked, F__law_asked.kp, b__law_asked⟩, TR, f_len, f_range, f_sorted⟩
  have G__law_beyond_space := ok_bey lkB hcB LP tB m3 u3
  exact ok_law lk hcd LP T1 m1 u1 C__law_bag ⟨_, _, G__law_beyond_space, g__law_beyond_space, F__law_beyond_space.kp, b__law_beyond_space⟩ i_PROGRAMS i_WISHES
end
end Cp

namespace Cp
open PySem PySem.Spec PyProof.Rows L2 He
theorem code_of {K : PySem.W.Frag} {x : Str} {st : Stmt} {dvs : List V} {fd : FuncData} (F : FnP K x st dvs (ga K x) fd) : ∃ c, fd.code = .ref c ∧ codeOf K (x, none) = c := by
  obtain ⟨oc, od, dV, kV, doc, pm, an, cdv, ct, osl, rfl, lk, hcd, _, _⟩ := F.ex
  obtain ⟨c, rfl⟩ := codeIn_ref hcd
  exact ⟨c, rfl, codeOf_eq (p := (x, none)) lk rfl⟩
theorem law_at {w : World} {h : Heap} {K : PySem.W.Frag} {mg : Str → Option Value} {fa : Addr} (X : K.In h) (cp : Hq.SaysP faL fnL tsL tfL exL wG wS vG vS w h K) (G : h.Ns mainGlobals mg) (hmg : mg "law" = some (.ref fa)) : LamX.LawAtS PySem.Challenge.rw_copytoll_k60_space_of_a_shelf w K CX0 20 63 "_law_script" mg fa h := by
  have c := cp.x
  obtain ⟨fd, F⟩ : ∃ fd, FnP K "law" (top 106) [] (ga K "law") fd := c.t.d.def_ 20 rfl
  have hg : mg "law" = some (.ref (ga K "law")) := glo_ok X G (c.t.d.fact 45 (f := Fa.glo "law") rfl)
  rw [hg] at hmg
  cases hmg
  have hb := F.bindsA (ps := ["_law_script"]) fun _ _ _ _ _ _ us hl => match us, hl with | [_], _ => rfl
  obtain ⟨oc, od, dV, kV, doc, pm, an, cdv, ct, osl, rfl, lk, hcd, _, _⟩ := F.ex
  obtain ⟨cA, rfl⟩ := codeIn_ref hcd
  have hcA : codeOf K ("law", none) = cA := codeOf_eq (p := ("law", none)) lk rfl
  have q1 := c.hd ("law", none) List.mem_cons_self
  have q2 := c.hd ("_law_asked", none) (List.mem_cons_of_mem _ List.mem_cons_self)
  have q3 := c.hd ("_law_beyond_space", none) (List.mem_cons_of_mem _ (List.mem_cons_of_mem _ List.mem_cons_self))
  refine ⟨_, [cT K ("law", none), cT K ("_law_asked", none), cT K ("_law_beyond_space", none)], spLaw K (tL K), fun p hp => ?_, fun p hp => ?_, fun p hp => ?_, fun s u => hb s [u] rfl, fun H a ns hl _ hT hS => ⟨a, ns, rfl, hS, hl, fun p hp => ?_, fun _ => rfl⟩, fun base X2 G2 TB => ?_⟩
  · simp only [List.mem_cons, List.not_mem_nil, or_false] at hp
    rcases hp with rfl | rfl | rfl
    · exact c.empty ("law", none) List.mem_cons_self
    · exact c.empty ("_law_asked", none) (List.mem_cons_of_mem _ List.mem_cons_self)
    · exact c.empty ("_law_beyond_space", none) (List.mem_cons_of_mem _ (List.mem_cons_of_mem _ List.mem_cons_self))
  · simp only [List.mem_cons, List.not_mem_nil, or_false] at hp
    rcases hp with rfl | rfl | rfl
    · exact c.out ("law", none) List.mem_cons_self
    · exact c.out ("_law_asked", none) (List.mem_cons_of_mem _ List.mem_cons_self)
    · exact c.out ("_law_beyond_space", none) (List.mem_cons_of_mem _ (List.mem_cons_of_mem _ List.mem_cons_self))
  · simp only [List.mem_cons, List.not_mem_nil, or_false] at hp
    rcases hp with rfl | rfl | rfl
    · exact PySem.W.codeHd_of_K X q1
    · exact PySem.W.codeHd_of_K X q2
    · exact PySem.W.codeHd_of_K X q3
  · simp only [tL, List.mem_cons, List.not_mem_nil, or_false] at hp
    rcases hp with rfl | rfl | rfl
    · exact LamX.TabS.nil (hT (cT K ("law", none)) List.mem_cons_self)
    · exact LamX.TabS.nil (hT (cT K ("_law_asked", none)) (List.mem_cons_of_mem _ List.mem_cons_self))
    · exact LamX.TabS.nil (hT (cT K ("_law_beyond_space", none)) (List.mem_cons_of_mem _ (List.mem_cons_of_mem _ List.mem_cons_self)))
  · have t1 := TB (cT K ("law", none)) List.mem_cons_self
    have t1 : LamX.TabB base mg (codeOf K ("law", none)) (tabA K "law") := t1
    rw [hcA] at t1
    exact law_ok c.t c.more cp.e1 cp.e2 X2 G2 lk hcd t1 ⟨TB (cT K ("_law_asked", none)) (List.mem_cons_of_mem _ List.mem_cons_self)⟩ ⟨TB (cT K ("_law_beyond_space", none)) (List.mem_cons_of_mem _ (List.mem_cons_of_mem _ List.mem_cons_self))⟩
end Cp
open PySem PySem.W PyProof.Rows
theorem PySem.Challenge.cw_copytoll_k60_space_of_a_shelf_holds : PySem.Challenge.rw_copytoll_k60_space_of_a_shelf.Holds := by
  w_on; o_law
  refine HandSHeadRun.head_any (H := Cp.hk) (ob := Cp.ob) (M := 20000) (loose := Cp.names) (q := PySem.W.view Cp.R.prog [106]) (d := HandSHeadRun.topDef Cp.R.prog 106) (kwd := []) Cp.ob_eq ?e ?f Cp.run ?hdef ?hp rfl rfl ?said ?ok ⟨rfl, rfl, rfl, rfl, rfl, by decide +kernel⟩ ?hw ?call
  case e => kernel_rfl
  case f => intro s; rfl
  case hdef => rfl
  case hp => rfl
  case said => assumption
  case ok => decide +kernel
  case hw => w_witness2
  case call =>
    exact LamX.walk_ofTsE (l := PySem.Challenge.rw_copytoll_k60_space_of_a_shelf) (n := 63) (k := 20) (x := "_law_script") (CX := fun _ => L2.CX0) rfl (by decide) rfl ⟨rfl, by decide, by decide⟩ (fun w mg fa h Y G hmg => by
      obtain ⟨K, X, c⟩ := Y
      exact ⟨K, X, Cp.law_at X c G hmg⟩) (fun _ _ _ _ _ h => h)
