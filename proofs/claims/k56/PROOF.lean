import PyProof.Rows.All
import Wide.All
import OpenK.AllK
import Wide.FinOn
import KE.KStateDown
import HandS.ForMost
import HandS.Exc
import HandS.HeadHook1
import HandS.HeadHook4
import HandS.Lambda
import HandS.Wide
import HandS.IsInst
import HandS.TupLen
import HandS.Codes
import HandS.TupAny
import HandS.NoneIn
import HandS.WordsExc
import HandS.Defaults
import HandS.ExcOwn
import PyProof.DictUpdate
import HandS.Finally
import HandS.Small
import HandS.Iter
import HandS.WordsDict
import HandS.Conv
import HandS.RaiseMore
import HandS.More
import HandS.Style
import HandS.FStr
import OpenK.KOps
import HandS.OwnEq
import PyProof.CollectIter
import HandS.MakeKwOnly
import PyProof.Conv_bool
import PyProof.ListTruth
import PyProof.Rows.Range3
import HandS.HeadEnd
import HandS.Head2
import HandS.HeadHook2
import HandS.ExcInit
import HandS.ExcField
import HandS.TryOnly
import HandS.TryMany
import KE.KExcInit
import KE.KExcIs
import KE.KTryMore
import HandS.ExcIs
import HandS.EndTab
import HandS.DictComp
import HandS.HeadHook3
import HandS.Deep
import HandS.List
import HandS.TupMul
import PyProof.InstEq
import HandS.MakeKw
import HandS.SortInts
import HandS.RevRange
import HandS.Text
import KE.GoesEnumKw
import KE.GoesMore
import KE.KUnpackStar
import PySem.Challenge.RW_tidewaiter_k56_webs_written_and_read
set_option Elab.async false
set_option linter.all false
set_option maxRecDepth 100000
set_option maxHeartbeats 4000000
namespace DL
open PySem PySem.Spec L2
section
variable {X : Cx} {K : PySem.W.Frag}
inductive TyK where
  | bi (n : String) | own (c : Str)
  deriving DecidableEq
def TyK.val (K : PySem.W.Frag) : TyK → Value
  | .bi n => .type n
  | .own c => .ref (He.ga K c)
def insB (K : PySem.W.Frag) (c : Str) : Bool := (He.Fa.cls c).ok K && (decide (PySem.W.findIn K (.ref (He.ga K c)) "__class__" = some (some (.builtin "object.__class__"))) && (decide (PySem.W.specialIn K (.builtin "object.__class__") "__get__" = some (some (.builtin "getset_descriptor.__get__"))) &&
  (decide (PySem.W.takesIn K (.builtin "object.__class__") = some true) && decide (PySem.W.mroIn K (He.ga K c) (.type "object") = some true))))
def isiB (K : PySem.W.Frag) (u : Value) (tab : List (TyK × Bool)) : Bool := tab.all fun p => decide (PySem.W.kitOne K (p.1.val K) u = some p.2) && (match p.1 with
  | .own c => insB K c
  | _ => true)
end
end DL
namespace DL
open PySem PySem.W PySem.Calls PyProof.Rows HandSHeadRun
def RunA (r : OpenRow) (q : Program) (M : Nat) (loose : List PySem.Str) (w : World) : Prop :=
  ∀ os : OsState, (HandSHeadRun.endF (stepQ (denQ tabQ) r.prog w) M r.prog w os).map (fun s => (looksF r.prog (boot_heap w.params) s.abs, seenQ q loose (importedModules r.prog.main.body) (fun s => xlAt q [] s && recOk r.toRowW.records s) s.abs)) = some (true, openGood q loose)
def RunB (r : OpenRow) (H : Hook) (ob : SharedT → H.α) (M : Nat) (w : World) : Prop :=
  ∀ os : OsState, (HandSHeadRun.endF (stepQ (denQ tabQ) r.prog w) M r.prog w os).map ob = some (H.val w)
end DL
namespace DL
open PySem PySem.Spec PyProof.Rows
def freshY : List Addr → Nat → List Addr → (List Addr → Nat → List Addr) → List Addr
  | [], s, acc, k => k acc s
  | a :: r, s, acc, k => HandSHeadRun.frNat a fun a => match s.testBit a with
    | true => freshY r s acc k
    | false => HandSHeadRun.frNat (s ||| (1 <<< a)) fun s' => freshY r s' (a :: acc) k
def nextY (g : Addr → Option Obj) : List Addr → List Addr
  | [] => []
  | a :: r => (match g a with
    | some o => He.refsD o
    | none => []) ++ nextY g r
def lvY (g : Addr → Option Obj) : Nat → List Addr → Nat → List Addr → List Addr
  | 0, _, _, all => all
  | n + 1, fr, s, all => freshY (nextY g fr) s [] fun nw s' => lvY g n nw s' (nw ++ all)
def asY (names : List Str) (n : Nat) (g : Addr → Option Obj) : List Addr :=
  freshY (match g mainGlobals with
    | some ⟨_, _, .dict es _, _⟩ => (es.toList.filter fun e => names.any fun x => e.key.isStr x).flatMap fun e => He.refV e.val
    | _ => []) (1 <<< mainGlobals) [] fun nw s' => lvY g n nw s' (mainGlobals :: nw)
section
variable (as : (Addr → Option Obj) → List Addr) (fa : List He.Fa) (fn : List He.DefD) (ts : List He.Tab) (tf : List He.Defn) (ex : PySem.W.Frag → Bool)
def onK (K : PySem.W.Frag) (g : Addr → Option Obj) : He.AlX := (He.obsT fa fn ts K, ex K && He.tabsB g tf K)
def obsY (g : Addr → Option Obj) : He.AlX := onK fa fn ts tf ex (He.frT g (as g)) g
theorem saysY {w : World} {h : Heap} {K : PySem.W.Frag} (hK : ∀ a o, h.get? a = some o → He.emptyTab o = true → K.lookup a = none) (e : onK fa fn ts tf ex K h.get? = He.valX fn ts w) : He.SaysX fa fn ts tf ex w h K := by
  unfold onK He.valX at e
  rw [Prod.mk.injEq, Bool.and_eq_true] at e
  obtain ⟨e1, e2, e3⟩ := e
  have one : ∀ p ∈ tf, PySem.W.codeHdIn K (He.cT K p).1 (He.cT K p).2 = true ∧ ∃ o, h.get? (He.cT K p).2 = some o ∧ He.emptyTab o = true := by
    intro p hp
    have z := List.all_eq_true.mp e3 p hp
    rw [Bool.and_eq_true] at z
    refine ⟨z.1, ?_⟩
    have z2 := z.2
    split at z2
    · rename_i o q
      exact ⟨o, q, z2⟩
    · cases z2
  constructor
  · exact e1
  · exact e2
  · exact fun p hp => (one p hp).1
  · intro p hp
    obtain ⟨o, q1, q2⟩ := (one p hp).2
    exact hK _ o q1 q2
  · intro p hp
    obtain ⟨o, q1, q2⟩ := (one p hp).2
    rw [q1]
    exact congrArg some (He.emptyTab_eq q2)
def hookY : PySem.W.Hook where
  α := He.AlX
  obs s := obsY as fa fn ts tf ex s.heap.get?
  val w := He.valX fn ts w
  says w h := ∃ K : PySem.W.Frag, K.In h ∧ He.SaysX fa fn ts tf ex w h K
  of _ _ e := ⟨_, He.frT_in, saysY fa fn ts tf ex (fun _ _ => He.frT_none) e⟩
  keeps _ _ _ q k := by
    obtain ⟨K, hK, c⟩ := q
    refine ⟨K, hK.keeps k, ?_⟩
    obtain ⟨c1, c2, c3, c4, c5⟩ := c
    exact { t := c1, more := c2, hd := c3, out := c4, empty := fun p hp => k _ _ (c5 p hp) }
end
end DL
namespace DL
open PySem PySem.Spec PyProof.Rows L2
def kvS (e : DictEntry) : Option (Str × Str) := match e.key, e.val with
  | .str k _, .str i _ => some (k, i)
  | _, _ => none
def tabSV (K : PySem.W.Frag) (x : Str) (kvs : List (Str × Str)) : Bool := match K.lookup (He.ga K x) with
  | some ⟨_, _, .dict es _, _⟩ => decide (es.toList.map kvS = kvs.map some)
  | _ => false
end DL
namespace My
open PySem PySem.Spec L2 DL
def topS (i : Nat) : Stmt := PySem.Challenge.pw_tidewaiter_k56_webs_written_and_read.main.body.getD i (.Pass ⟨0, 0, 0, 0⟩)
abbrev fa : List He.Fa := [.cls "Web", .noat "Web" "by", .noat "Web" "own", .noat "Web" "winds", .noat "Web" "bonds", .free "isinstance", .glo "Web", .free "bool", .free "int", .int "MOST_BY" 1000, .glo "is_within", .free "str", .free "abs", .free "len", .glo "_law_draw", .glo "_law_pick", .free "list", .free "range", .glo "_law_points", .glo "_law_bond", .glo "_law_wind", .glo "_law_names", .glo "_law_model", .glo "_law_same", .free "all", .free "tuple", .free "dict", .str "START" "start", .meth "Web" "__repr__", .free "repr", .meth "Web" "ties", .meth "Web" "points", .meth "Web" "__len__", .meth "Web" "moments", .meth "Web" "spans", .str "LETTERS" "abcdefghijklmnopqrstuvwxyz", .int "MOST_NAME" 8, .glo "is_name", .mkr "Web", .meth "Web" "turned", .int "MOST_MOMENTS" 10, .meth "Web" "need_new", .int "MOST_WAIT" 1000, .int "MOST_SPANS" 4, .glo "need_late", .glo "need_lengths", .int "MOST_TIES" 40, .glo "is_bound", .meth "Web" "need_tie", .meth "Web" "with_tie", .meth "Web" "with_span", .meth "Web" "with_moment", .free "any", .meth "Web" "without", .meth "Web" "without_tie", .meth "Web" "with_by", .str "FIGURES" "0123456789", .int "MOST_FIGURES" 9, .glo "number_of", .glo "name_of", .free "zip", .glo "thing_of", .glo "FORMS", .glo "applied", .glo "read_deed", .free "enumerate", .glo "shown", .glo "write_deed", .meth "Web" "__eq__", .glo "read_web", .glo "write_web", .glo "_law_stands", .glo "_law_web_deeds", .glo "_law_deed_line", .glo "_law_web", .glo "_law_drawn", .glo "_law_flow"]
def tab_Web : List (TyK × Bool) := [(.bi "NoneType", false), (.bi "bool", false), (.bi "int", false), (.bi "str", false), (.bi "list", false), (.bi "tuple", false), (.bi "dict", false), (.own "Web", true)]
def tab_bool : List (TyK × Bool) := [(.bi "NoneType", false), (.bi "bool", true), (.bi "int", false), (.bi "str", false), (.bi "list", false), (.bi "tuple", false), (.bi "dict", false), (.own "Web", false)]
def tab_int : List (TyK × Bool) := [(.bi "NoneType", false), (.bi "bool", true), (.bi "int", true), (.bi "str", false), (.bi "list", false), (.bi "tuple", false), (.bi "dict", false), (.own "Web", false)]
def tab_list : List (TyK × Bool) := [(.bi "NoneType", false), (.bi "bool", false), (.bi "int", false), (.bi "str", false), (.bi "list", true), (.bi "tuple", false), (.bi "dict", false), (.own "Web", false)]
def tab_tuple : List (TyK × Bool) := [(.bi "NoneType", false), (.bi "bool", false), (.bi "int", false), (.bi "str", false), (.bi "list", false), (.bi "tuple", true), (.bi "dict", false), (.own "Web", false)]
def tab_dict : List (TyK × Bool) := [(.bi "NoneType", false), (.bi "bool", false), (.bi "int", false), (.bi "str", false), (.bi "list", false), (.bi "tuple", false), (.bi "dict", true), (.own "Web", false)]
def tab_str : List (TyK × Bool) := [(.bi "NoneType", false), (.bi "bool", false), (.bi "int", false), (.bi "str", true), (.bi "list", false), (.bi "tuple", false), (.bi "dict", false), (.own "Web", false)]
abbrev gs_FORMS : List (Str × Str) := [("by", "n"), ("moment", "w"), ("span", "wwnno"), ("tie", "wwoo"), ("without", "w"), ("untie", "n")]
end My
namespace My
open PySem PySem.Spec L2 DL
def dd_Web___eq__ : He.DefD := ⟨("Web", some "__eq__"), "__eq__", "Web.__eq__", defArgs (inClass (topS 30) 2), defBody (inClass (topS 30) 2), defScope (inClass (topS 30) 2), [], []⟩
def dd_is_within : He.DefD := ⟨("is_within", none), "is_within", "is_within", defArgs (topS 25), defBody (topS 25), defScope (topS 25), [], []⟩
def dd_Web___init__ : He.DefD := ⟨("Web", some "__init__"), "__init__", "Web.__init__", defArgs (inClass (topS 30) 0), defBody (inClass (topS 30) 0), defScope (inClass (topS 30) 0), [.int 100], []⟩
def dd__law_deed_line : He.DefD := ⟨("_law_deed_line", none), "_law_deed_line", "_law_deed_line", defArgs (topS 57), defBody (topS 57), defScope (topS 57), [], []⟩
def dd__law_draw : He.DefD := ⟨("_law_draw", none), "_law_draw", "_law_draw", defArgs (topS 46), defBody (topS 46), defScope (topS 46), [], []⟩
def dd__law_pick : He.DefD := ⟨("_law_pick", none), "_law_pick", "_law_pick", defArgs (topS 47), defBody (topS 47), defScope (topS 47), [], []⟩
def dd__law_bond : He.DefD := ⟨("_law_bond", none), "_law_bond", "_law_bond", defArgs (topS 54), defBody (topS 54), defScope (topS 54), [], []⟩
def dd__law_model : He.DefD := ⟨("_law_model", none), "_law_model", "_law_model", defArgs (topS 50), defBody (topS 50), defScope (topS 50), [], []⟩
def dd__law_names : He.DefD := ⟨("_law_names", none), "_law_names", "_law_names", defArgs (topS 49), defBody (topS 49), defScope (topS 49), [], []⟩
def dd__law_points : He.DefD := ⟨("_law_points", none), "_law_points", "_law_points", defArgs (topS 51), defBody (topS 51), defScope (topS 51), [], []⟩
def dd__law_wind : He.DefD := ⟨("_law_wind", none), "_law_wind", "_law_wind", defArgs (topS 53), defBody (topS 53), defScope (topS 53), [], []⟩
def dd__law_drawn : He.DefD := ⟨("_law_drawn", none), "_law_drawn", "_law_drawn", defArgs (topS 55), defBody (topS 55), defScope (topS 55), [], []⟩
def dd__law_flow : He.DefD := ⟨("_law_flow", none), "_law_flow", "_law_flow", defArgs (topS 45), defBody (topS 45), defScope (topS 45), [], []⟩
def dd__law_same : He.DefD := ⟨("_law_same", none), "_law_same", "_law_same", defArgs (topS 48), defBody (topS 48), defScope (topS 48), [], []⟩
def dd_Web___len__ : He.DefD := ⟨("Web", some "__len__"), "__len__", "Web.__len__", defArgs (inClass (topS 30) 1), defBody (inClass (topS 30) 1), defScope (inClass (topS 30) 1), [], []⟩
def dd_Web___repr__ : He.DefD := ⟨("Web", some "__repr__"), "__repr__", "Web.__repr__", defArgs (inClass (topS 30) 3), defBody (inClass (topS 30) 3), defScope (inClass (topS 30) 3), [], []⟩
def dd_Web_moments : He.DefD := ⟨("Web", some "moments"), "moments", "Web.moments", defArgs (inClass (topS 30) 5), defBody (inClass (topS 30) 5), defScope (inClass (topS 30) 5), [], []⟩
def dd_Web_points : He.DefD := ⟨("Web", some "points"), "points", "Web.points", defArgs (inClass (topS 30) 8), defBody (inClass (topS 30) 8), defScope (inClass (topS 30) 8), [], []⟩
def dd_Web_spans : He.DefD := ⟨("Web", some "spans"), "spans", "Web.spans", defArgs (inClass (topS 30) 6), defBody (inClass (topS 30) 6), defScope (inClass (topS 30) 6), [], []⟩
def dd_Web_ties : He.DefD := ⟨("Web", some "ties"), "ties", "Web.ties", defArgs (inClass (topS 30) 7), defBody (inClass (topS 30) 7), defScope (inClass (topS 30) 7), [], []⟩
def dd__law_stands : He.DefD := ⟨("_law_stands", none), "_law_stands", "_law_stands", defArgs (topS 56), defBody (topS 56), defScope (topS 56), [], []⟩
def dd_is_name : He.DefD := ⟨("is_name", none), "is_name", "is_name", defArgs (topS 26), defBody (topS 26), defScope (topS 26), [], []⟩
def dd_Web_need_new : He.DefD := ⟨("Web", some "need_new"), "need_new", "Web.need_new", defArgs (inClass (topS 30) 9), defBody (inClass (topS 30) 9), defScope (inClass (topS 30) 9), [], []⟩
def dd_Web_turned : He.DefD := ⟨("Web", some "turned"), "turned", "Web.turned", defArgs (inClass (topS 30) 4), defBody (inClass (topS 30) 4), defScope (inClass (topS 30) 4), [], [("by", .non), ("own", .non), ("winds", .non), ("bonds", .non)]⟩
def dd_Web_with_moment : He.DefD := ⟨("Web", some "with_moment"), "with_moment", "Web.with_moment", defArgs (inClass (topS 30) 11), defBody (inClass (topS 30) 11), defScope (inClass (topS 30) 11), [], []⟩
def dd_need_late : He.DefD := ⟨("need_late", none), "need_late", "need_late", defArgs (topS 28), defBody (topS 28), defScope (topS 28), [], []⟩
def dd_need_lengths : He.DefD := ⟨("need_lengths", none), "need_lengths", "need_lengths", defArgs (topS 27), defBody (topS 27), defScope (topS 27), [], []⟩
def dd_Web_with_span : He.DefD := ⟨("Web", some "with_span"), "with_span", "Web.with_span", defArgs (inClass (topS 30) 12), defBody (inClass (topS 30) 12), defScope (inClass (topS 30) 12), [], [("late", .int 0)]⟩
def dd_is_bound : He.DefD := ⟨("is_bound", none), "is_bound", "is_bound", defArgs (topS 29), defBody (topS 29), defScope (topS 29), [], []⟩
def dd_Web_need_tie : He.DefD := ⟨("Web", some "need_tie"), "need_tie", "Web.need_tie", defArgs (inClass (topS 30) 13), defBody (inClass (topS 30) 13), defScope (inClass (topS 30) 13), [], []⟩
def dd_Web_with_tie : He.DefD := ⟨("Web", some "with_tie"), "with_tie", "Web.with_tie", defArgs (inClass (topS 30) 14), defBody (inClass (topS 30) 14), defScope (inClass (topS 30) 14), [], [("least", .non), ("most", .non)]⟩
def dd__law_web : He.DefD := ⟨("_law_web", none), "_law_web", "_law_web", defArgs (topS 52), defBody (topS 52), defScope (topS 52), [], []⟩
def dd__law_web_deeds : He.DefD := ⟨("_law_web_deeds", none), "_law_web_deeds", "_law_web_deeds", defArgs (topS 58), defBody (topS 58), defScope (topS 58), [], []⟩
def dd_Web_with_by : He.DefD := ⟨("Web", some "with_by"), "with_by", "Web.with_by", defArgs (inClass (topS 30) 10), defBody (inClass (topS 30) 10), defScope (inClass (topS 30) 10), [], []⟩
def dd_Web_without : He.DefD := ⟨("Web", some "without"), "without", "Web.without", defArgs (inClass (topS 30) 15), defBody (inClass (topS 30) 15), defScope (inClass (topS 30) 15), [], []⟩
def dd_Web_without_tie : He.DefD := ⟨("Web", some "without_tie"), "without_tie", "Web.without_tie", defArgs (inClass (topS 30) 16), defBody (inClass (topS 30) 16), defScope (inClass (topS 30) 16), [], []⟩
def dd_applied : He.DefD := ⟨("applied", none), "applied", "applied", defArgs (topS 41), defBody (topS 41), defScope (topS 41), [], []⟩
def dd_name_of : He.DefD := ⟨("name_of", none), "name_of", "name_of", defArgs (topS 38), defBody (topS 38), defScope (topS 38), [], []⟩
def dd_number_of : He.DefD := ⟨("number_of", none), "number_of", "number_of", defArgs (topS 37), defBody (topS 37), defScope (topS 37), [], []⟩
def dd_thing_of : He.DefD := ⟨("thing_of", none), "thing_of", "thing_of", defArgs (topS 39), defBody (topS 39), defScope (topS 39), [], []⟩
def dd_read_deed : He.DefD := ⟨("read_deed", none), "read_deed", "read_deed", defArgs (topS 40), defBody (topS 40), defScope (topS 40), [], []⟩
def dd_read_web : He.DefD := ⟨("read_web", none), "read_web", "read_web", defArgs (topS 43), defBody (topS 43), defScope (topS 43), [], []⟩
def dd_shown : He.DefD := ⟨("shown", none), "shown", "shown", defArgs (topS 35), defBody (topS 35), defScope (topS 35), [], []⟩
def dd_write_deed : He.DefD := ⟨("write_deed", none), "write_deed", "write_deed", defArgs (topS 36), defBody (topS 36), defScope (topS 36), [], []⟩
def dd_write_web : He.DefD := ⟨("write_web", none), "write_web", "write_web", defArgs (topS 42), defBody (topS 42), defScope (topS 42), [], []⟩
def dd_law : He.DefD := ⟨("law", none), "law", "law", defArgs (topS 59), defBody (topS 59), defScope (topS 59), [], []⟩
def fn : List He.DefD := [dd_Web___eq__, dd_is_within, dd_Web___init__, dd__law_deed_line, dd__law_draw, dd__law_pick, dd__law_bond, dd__law_model, dd__law_names, dd__law_points, dd__law_wind, dd__law_drawn, dd__law_flow, dd__law_same, dd_Web___len__, dd_Web___repr__, dd_Web_moments, dd_Web_points, dd_Web_spans, dd_Web_ties, dd__law_stands, dd_is_name, dd_Web_need_new, dd_Web_turned, dd_Web_with_moment, dd_need_late, dd_need_lengths, dd_Web_with_span, dd_is_bound, dd_Web_need_tie, dd_Web_with_tie, dd__law_web, dd__law_web_deeds, dd_Web_with_by, dd_Web_without, dd_Web_without_tie, dd_applied, dd_name_of, dd_number_of, dd_thing_of, dd_read_deed, dd_read_web, dd_shown, dd_write_deed, dd_write_web, dd_law]
abbrev fa2 : List He.Fa := fa ++ [.glo "law"]
def ex (K : PySem.W.Frag) : Bool := isiB K (.ref (He.ga K "Web")) tab_Web && isiB K (.type "bool") tab_bool && isiB K (.type "int") tab_int && isiB K (.type "list") tab_list && isiB K (.type "tuple") tab_tuple && isiB K (.type "dict") tab_dict && isiB K (.type "str") tab_str && tabSV K "FORMS" gs_FORMS
abbrev RR : PySem.W.OpenRow := PySem.W.OpenLaw.row PySem.Challenge.rw_tidewaiter_k56_webs_written_and_read
def nmsY0 : List Str := ["Web", "is_within", "_law_draw", "_law_pick", "_law_points", "_law_bond", "_law_wind", "_law_names", "_law_model", "_law_same", "is_name", "need_late", "need_lengths", "is_bound", "number_of", "name_of", "thing_of", "applied", "read_deed", "shown", "write_deed", "read_web", "write_web", "_law_stands", "_law_web_deeds", "_law_deed_line", "_law_web", "_law_drawn", "_law_flow", "law"]
def nmsY1 : List Str := ["FORMS"]
def nmsY : List Str := nmsY0 ++ nmsY1
def asN : (Addr → Option Obj) → List Addr := asY nmsY 3
abbrev hkY : PySem.W.Hook := hookY asN fa2 fn [(fun K => He.ga K "FORMS", ["by", "moment", "span", "tie", "without", "untie"])] [] ex
def ob (s : PySem.W.SharedT) : He.AlX := obsY asN fa2 fn [(fun K => He.ga K "FORMS", ["by", "moment", "span", "tie", "without", "untie"])] [] ex (HandSHeadRun.getT s)
def loose0 : List Str := ["TideError", "Missing", "BadBy", "BadName", "Taken", "Full", "BadLength", "BadLate", "BadTie", "Used", "BadText", "NoMoment", "NoPoint", "NoTie", "BY", "MOST_BY", "MOST_WAIT", "MOST_MOMENTS", "MOST_SPANS", "MOST_TIES", "MOST_NAME", "START", "LETTERS", "is_within", "is_name", "need_lengths", "need_late", "is_bound", "Web", "FIGURES"]
def loose1 : List Str := ["MOST_FIGURES", "FORMS", "shown", "write_deed", "number_of", "name_of", "thing_of", "read_deed", "applied", "write_web", "read_web", "_law_flow", "_law_draw", "_law_pick", "_law_same", "_law_names", "_law_model", "_law_points", "_law_web", "_law_wind", "_law_bond", "_law_drawn", "_law_stands", "_law_deed_line", "_law_web_deeds"]
def loose : List Str := loose0 ++ loose1
theorem runA_false (w : World) : RunA RR (PySem.W.view RR.prog [59]) 20000 loose (w.withFollow "special-get-raises" false) := by
  intro os
  kernel_rfl
theorem runA_true (w : World) : RunA RR (PySem.W.view RR.prog [59]) 20000 loose (w.withFollow "special-get-raises" true) := by
  intro os
  kernel_rfl
theorem runB_false (w : World) : RunB RR hkY ob 20000 (w.withFollow "special-get-raises" false) := by
  intro os
  kernel_rfl
theorem runB_true (w : World) : RunB RR hkY ob 20000 (w.withFollow "special-get-raises" true) := by
  intro os
  kernel_rfl
end My
set_option Elab.async false
set_option linter.all false
set_option maxRecDepth 100000
set_option maxHeartbeats 4000000
namespace DL
open PySem PySem.Spec L2
inductive Sh where
  | tup | lst | dic (ks : List Key) | dit (ks : List (List Key)) | ins (c : Str) (fs : List Str) | exd (fs : List Str)
  deriving DecidableEq
inductive D where
  | non | bl (b : Bool) | int (i : Int) | str (x : Str) | ob (a : Addr) | ty (n : String) | scr (ns : List Int) | tscr (ns : List Int) (T : List (He.Defn × Str)) | lam (f c : Addr) (q : Str)
  | node (o : Bool) (s : Sh) (xs : List D)
mutual
def D.frz : D → Bool
  | .node o _ xs => !o && frzL xs
  | .tscr _ _ => false
  | _ => true
def frzL : List D → Bool
  | [] => true
  | d :: ds => d.frz && frzL ds
end
mutual
def D.fz : D → D
  | .node _ s xs => .node false s (fzL xs)
  | .non => .non
  | .bl b => .bl b
  | .int i => .int i
  | .str x => .str x
  | .ob a => .ob a
  | .ty n => .ty n
  | .scr ns => .scr ns
  | .tscr ns _ => .scr ns
  | .lam f c q => .lam f c q
def fzL : List D → List D
  | [] => []
  | d :: ds => d.fz :: fzL ds
end
theorem fzL_map : ∀ ds : List D, fzL ds = ds.map D.fz
  | [] => rfl
  | d :: ds => by rw [fzL, fzL_map ds]; rfl
theorem frzL_all : ∀ ds : List D, frzL ds = ds.all D.frz
  | [] => rfl
  | d :: ds => by rw [frzL, frzL_all ds]; rfl
mutual
theorem fz_frz : ∀ d : D, d.fz.frz = true
  | .node _ s xs => by simp only [D.fz, D.frz]; rw [fzL_frz xs]; rfl
  | .non => rfl
  | .bl _ => rfl
  | .int _ => rfl
  | .str _ => rfl
  | .ob _ => rfl
  | .ty _ => rfl
  | .scr _ => rfl
  | .tscr _ _ => rfl
  | .lam _ _ _ => rfl
theorem fzL_frz : ∀ ds : List D, frzL (fzL ds) = true
  | [] => rfl
  | d :: ds => by simp only [fzL, frzL]; rw [fz_frz d, fzL_frz ds]; rfl
end
mutual
theorem fz_of_frz : ∀ d : D, d.frz = true → d.fz = d
  | .node o s xs, h => by
    simp only [D.frz, Bool.and_eq_true, Bool.not_eq_true'] at h
    simp only [D.fz, h.1, fzL_of_frz xs h.2]
  | .non, _ => rfl
  | .bl _, _ => rfl
  | .int _, _ => rfl
  | .str _, _ => rfl
  | .ob _, _ => rfl
  | .ty _, _ => rfl
  | .scr _, _ => rfl
  | .tscr _ _, h => by simp [D.frz] at h
  | .lam _ _ _, _ => rfl
theorem fzL_of_frz : ∀ ds : List D, frzL ds = true → fzL ds = ds
  | [], _ => rfl
  | d :: ds, h => by
    simp only [frzL, Bool.and_eq_true] at h
    simp only [fzL, fz_of_frz d h.1, fzL_of_frz ds h.2]
end
def isDic : HO → Bool
  | .dK _ => true
  | .dT _ => true
  | _ => false
def Has (H : Hp) (a : Addr) (u : HO) : Prop := H a = some u ∨ ((∃ o, H a = some (.frz o u)) ∧ isDic u = true)
theorem Has.rd {H : Hp} {a : Addr} {u : HO} (h : Has H a u) : Rd H a u := by
  rcases h with h | ⟨h, _⟩
  · exact .inl h
  · exact .inr h
theorem Has.ne {H : Hp} {a : Addr} {u : HO} (h : Has H a u) : H a ≠ none := by
  rcases h with h | ⟨⟨o, h⟩, _⟩ <;> rw [h] <;> exact fun z => by cases z
theorem Has.ex {H : Hp} {a : Addr} {u : HO} (h : Has H a u) (n : isDic u = false) : H a = some u := by
  rcases h with h | ⟨_, h⟩
  · exact h
  · rw [n] at h; cases h
theorem Has.same {H H' : Hp} {a : Addr} {u : HO} (h : Has H a u) (e : ∀ o, H a = some o → H' a = some o) : Has H' a u := by
  rcases h with h | ⟨⟨o, h⟩, n⟩
  · exact .inl (e _ h)
  · exact .inr ⟨⟨o, e _ h⟩, n⟩
section
variable (K : PySem.W.Frag)
def IsN : Sh → List V → HO → Prop
  | .tup, vs, o => o = .tup vs
  | .lst, vs, o => o = .lst vs
  | .dic ks, vs, o => (ks.length = vs.length ∧ ks.Nodup) ∧ o = .dK (ks.zip vs)
  | .dit ks, vs, o => (ks.length = vs.length ∧ ks.Nodup) ∧ o = .dT (ks.zip vs)
  | .ins c fs, vs, o => fs.length = vs.length ∧ ∃ dx, o = .ins (He.ga K c) dx (fs.zip vs)
  | .exd fs, vs, o => fs.length = vs.length ∧ o = .xd (fs.zip vs)
def tupOk (s : Sh) (xs : List D) : Prop := s = .tup → frzL xs = false
def ScrO (u : HO) (vs : List V) : Prop := (∃ o, u = .frz o (.lst vs)) ∨ u = .lst vs
def ScrAt (F : Hp) (a : Addr) (vs : List V) : Prop := (∃ u, F a = some u ∧ ScrO u vs) ∨ ∃ (o : Obj) (its : Array Value) (n : Nat), K.lookup a = some o ∧ o.cls = .type "list" ∧ o.dict = none ∧ o.data = .seq its n ∧ its.size ≤ sizeLine ∧ Vals vs its.toList
def TabsR (T : List (He.Defn × Str)) (F H : Hp) (fp : List Addr) : Prop :=
  (∀ p ∈ T, (He.cT K p.1).2 ∈ fp ∧ ∃ ps : Array Value, H (He.cT K p.1).2 = some (.tbl ps) ∧ TriplesOk ps.toList ∧ ∀ (pos : Pos) (cv : Value), codeAmong pos ps.toList = some cv → ∃ c, cv = .ref c ∧ F c = some (LamX.CodeO c p.2)) ∧ ∀ a ∈ fp, ∃ u, H a = some u ∧ (∀ o v, u ≠ .frz o v) ∧ isDic u = false
mutual
def Rep (F H : Hp) : D → V → List Addr → Prop
  | .non, v, fp => v = .non ∧ fp = []
  | .bl b, v, fp => v = .bl b ∧ fp = []
  | .int i, v, fp => v = .int i ∧ fp = []
  | .str x, v, fp => v = .str x ∧ fp = []
  | .ob a, v, fp => v = .ref a ∧ fp = []
  | .ty n, v, fp => v = .ty n ∧ fp = []
  | .scr ns, v, fp => ∃ a, v = .ref a ∧ fp = [] ∧ ScrAt K F a (ns.map V.int)
  | .tscr ns T, v, fp => (∃ a, v = .ref a ∧ ScrAt K F a (ns.map V.int)) ∧ TabsR K T F H fp
  | .lam f c q, v, fp => v = .ref f ∧ fp = [] ∧ F c = some (LamX.CodeO c q)
  | .node true s xs, v, fp => ∃ a u vs fq, v = .ref a ∧ fp = a :: fq ∧ Has H a u ∧ IsN K s vs u ∧ a ∉ fq ∧ tupOk s xs ∧ RepL F H xs vs fq
  | .node false s xs, v, fp => ∃ a u vs, v = .ref a ∧ fp = [] ∧ F a = some u ∧ IsN K s vs u ∧ RepL F H xs vs []
def RepL (F H : Hp) : List D → List V → List Addr → Prop
  | [], vs, fp => vs = [] ∧ fp = []
  | d :: ds, vs, fp => ∃ v ws f1 f2, vs = v :: ws ∧ fp = f1 ++ f2 ∧ (∀ a ∈ f1, a ∉ f2) ∧ Rep F H d v f1 ∧ RepL F H ds ws f2
end
variable {K} {F F' H H' : Hp}
theorem TabsR.mono {T : List (He.Defn × Str)} {fp : List Addr} (hF : ∀ a u, (∀ o v, u ≠ .frz o v) → F a = some u → F' a = some u) (h : TabsR K T F H fp) (hH : ∀ a ∈ fp, ∀ u, (∀ o v, u ≠ .frz o v) → Has H a u → Has H' a u) : TabsR K T F' H' fp := by
  obtain ⟨h1, h4⟩ := h
  have ex : ∀ a ∈ fp, ∀ u, H a = some u → (∀ o v, u ≠ .frz o v) → isDic u = false → H' a = some u := fun a ha u e z n => (hH a ha u z (.inl e)).ex n
  refine ⟨fun p hp => ?_, fun a ha => ?_⟩
  · obtain ⟨h2, ps, e1, e2, e3⟩ := h1 p hp
    refine ⟨h2, ps, ex _ h2 _ e1 (fun _ _ z => by cases z) rfl, e2, fun pos cv hc => ?_⟩
    obtain ⟨c, rfl, e4⟩ := e3 pos cv hc
    exact ⟨c, rfl, hF _ _ (fun _ _ z => by unfold LamX.CodeO at z; cases z) e4⟩
  · obtain ⟨u, e, z, y⟩ := h4 a ha
    exact ⟨u, ex a ha u e z y, z, y⟩
theorem TabsR.dom {T : List (He.Defn × Str)} {fp : List Addr} (h : TabsR K T F H fp) : ∀ a ∈ fp, H a ≠ none := fun a ha => by
  obtain ⟨u, e, _⟩ := h.2 a ha
  rw [e]
  exact fun z => by cases z
mutual
theorem Rep.mono (hF : ∀ a u, F a = some u → F' a = some u) : ∀ (d : D) (v : V) (fp : List Addr), (∀ a ∈ fp, ∀ u, Has H a u → Has H' a u) → Rep K F H d v fp → Rep K F' H' d v fp
  | .non, v, fp, _, h => h
  | .bl _, v, fp, _, h => h
  | .int _, v, fp, _, h => h
  | .str _, v, fp, _, h => h
  | .ob _, v, fp, _, h => h
  | .ty _, v, fp, _, h => h
  | .scr _, v, fp, _, h => by
    obtain ⟨a, h1, h2, h3⟩ := h
    exact ⟨a, h1, h2, h3.imp (fun ⟨o, z, zz⟩ => ⟨o, hF _ _ z, zz⟩) id⟩
  | .tscr _ _, v, fp, hH, h => by
    obtain ⟨⟨a, h1, h3⟩, h4⟩ := h
    exact ⟨⟨a, h1, h3.imp (fun ⟨o, z, zz⟩ => ⟨o, hF _ _ z, zz⟩) id⟩, h4.mono (fun b u _ => hF b u) fun b hb u _ => hH b hb u⟩
  | .lam _ _ _, v, fp, hH, h => ⟨h.1, h.2.1, hF _ _ h.2.2⟩
  | .node true s xs, v, fp, hH, h => by
    simp only [Rep] at h ⊢
    obtain ⟨a, u, vs, fq, rfl, rfl, h1, h2, h3, h4, h5⟩ := h
    exact ⟨a, u, vs, fq, rfl, rfl, hH a (List.mem_cons_self ..) u h1, h2, h3, h4, RepL.mono hF xs vs fq (fun b hb => hH b (List.mem_cons_of_mem _ hb)) h5⟩
  | .node false s xs, v, fp, hH, h => by
    simp only [Rep] at h ⊢
    obtain ⟨a, u, vs, rfl, rfl, h1, h2, h3⟩ := h
    exact ⟨a, u, vs, rfl, rfl, hF a u h1, h2, RepL.mono hF xs vs [] (fun b hb => nomatch hb) h3⟩
theorem RepL.mono (hF : ∀ a u, F a = some u → F' a = some u) : ∀ (ds : List D) (vs : List V) (fp : List Addr), (∀ a ∈ fp, ∀ u, Has H a u → Has H' a u) → RepL K F H ds vs fp → RepL K F' H' ds vs fp
  | [], vs, fp, _, h => h
  | d :: ds, vs, fp, hH, h => by
    simp only [RepL] at h ⊢
    obtain ⟨v, ws, f1, f2, rfl, rfl, h1, h2, h3⟩ := h
    exact ⟨v, ws, f1, f2, rfl, rfl, h1, Rep.mono hF d v f1 (fun b hb => hH b (List.mem_append_left _ hb)) h2, RepL.mono hF ds ws f2 (fun b hb => hH b (List.mem_append_right _ hb)) h3⟩
end
theorem Rep.frz_nil : ∀ (d : D) (v : V) (fp : List Addr), d.frz = true → Rep K F H d v fp → fp = []
  | .non, v, fp, _, h => h.2
  | .bl _, v, fp, _, h => h.2
  | .int _, v, fp, _, h => h.2
  | .str _, v, fp, _, h => h.2
  | .ob _, v, fp, _, h => h.2
  | .ty _, v, fp, _, h => h.2
  | .scr _, v, fp, _, h => by
    obtain ⟨a, h1, h2, h3⟩ := h
    exact h2
  | .tscr _ _, v, fp, hz, h => by simp [D.frz] at hz
  | .lam _ _ _, v, fp, _, h => h.2.1
  | .node true s xs, v, fp, hz, h => by simp [D.frz] at hz
  | .node false s xs, v, fp, _, h => by
    simp only [Rep] at h
    obtain ⟨a, u, vs, rfl, rfl, _⟩ := h
    rfl
theorem RepL.frz_nil : ∀ (ds : List D) (vs : List V) (fp : List Addr), frzL ds = true → RepL K F H ds vs fp → fp = []
  | [], vs, fp, _, h => h.2
  | d :: ds, vs, fp, hz, h => by
    simp only [frzL, Bool.and_eq_true] at hz
    simp only [RepL] at h
    obtain ⟨v, ws, f1, f2, rfl, rfl, h1, h2, h3⟩ := h
    rw [Rep.frz_nil d v f1 hz.1 h2, RepL.frz_nil ds ws f2 hz.2 h3]
    rfl
mutual
theorem Rep.dom : ∀ (d : D) (v : V) (fp : List Addr), Rep K F H d v fp → ∀ a ∈ fp, H a ≠ none
  | .non, v, fp, h => by rw [h.2]; exact fun a z => nomatch z
  | .bl _, v, fp, h => by rw [h.2]; exact fun a z => nomatch z
  | .int _, v, fp, h => by rw [h.2]; exact fun a z => nomatch z
  | .str _, v, fp, h => by rw [h.2]; exact fun a z => nomatch z
  | .ob _, v, fp, h => by rw [h.2]; exact fun a z => nomatch z
  | .ty _, v, fp, h => by rw [h.2]; exact fun a z => nomatch z
  | .scr _, v, fp, h => by
    obtain ⟨a, h1, h2, h3⟩ := h
    rw [h2]
    exact fun a z => nomatch z
  | .tscr _ _, v, fp, h => h.2.dom
  | .lam _ _ _, v, fp, h => by rw [h.2.1]; exact fun a z => nomatch z
  | .node true s xs, v, fp, h => by
    simp only [Rep] at h
    obtain ⟨a, u, vs, fq, rfl, rfl, h1, h2, h3, h4, h5⟩ := h
    intro b hb
    rcases List.mem_cons.mp hb with rfl | hb
    · exact h1.ne
    · exact RepL.dom xs vs fq h5 b hb
  | .node false s xs, v, fp, h => by
    simp only [Rep] at h
    obtain ⟨a, u, vs, rfl, rfl, _⟩ := h
    exact fun a z => nomatch z
theorem RepL.dom : ∀ (ds : List D) (vs : List V) (fp : List Addr), RepL K F H ds vs fp → ∀ a ∈ fp, H a ≠ none
  | [], vs, fp, h => by rw [h.2]; exact fun a z => nomatch z
  | d :: ds, vs, fp, h => by
    simp only [RepL] at h
    obtain ⟨v, ws, f1, f2, rfl, rfl, h1, h2, h3⟩ := h
    intro b hb
    rcases List.mem_append.mp hb with hb | hb
    · exact Rep.dom d v f1 h2 b hb
    · exact RepL.dom ds ws f2 h3 b hb
end
theorem RepL.len : ∀ (ds : List D) (vs : List V) (fp : List Addr), RepL K F H ds vs fp → vs.length = ds.length
  | [], vs, fp, h => by rw [h.1]; rfl
  | d :: ds, vs, fp, h => by
    simp only [RepL] at h
    obtain ⟨v, ws, f1, f2, rfl, rfl, h1, h2, h3⟩ := h
    rw [List.length_cons, List.length_cons, RepL.len ds ws f2 h3]
theorem RepL.mk {d : D} {ds : List D} {v : V} {ws : List V} {f1 f2 : List Addr} (h1 : ∀ a ∈ f1, a ∉ f2) (h2 : Rep K F H d v f1) (h3 : RepL K F H ds ws f2) : RepL K F H (d :: ds) (v :: ws) (f1 ++ f2) := by
  simp only [RepL]
  exact ⟨v, ws, f1, f2, rfl, rfl, h1, h2, h3⟩
mutual
theorem Rep.freeze (hF : ∀ a u, F a = some u → F' a = some u) : ∀ (d : D) (v : V) (fp : List Addr), (∀ a ∈ fp, ∀ u, Has H a u → F' a = some u) → Rep K F H d v fp → Rep K F' H' d.fz v []
  | .non, v, fp, _, h => ⟨h.1, rfl⟩
  | .bl _, v, fp, _, h => ⟨h.1, rfl⟩
  | .int _, v, fp, _, h => ⟨h.1, rfl⟩
  | .str _, v, fp, _, h => ⟨h.1, rfl⟩
  | .ob _, v, fp, _, h => ⟨h.1, rfl⟩
  | .ty _, v, fp, _, h => ⟨h.1, rfl⟩
  | .scr _, v, fp, _, h => by
    obtain ⟨a, h1, h2, h3⟩ := h
    exact ⟨a, h1, rfl, h3.imp (fun ⟨o, z, zz⟩ => ⟨o, hF _ _ z, zz⟩) id⟩
  | .tscr _ _, v, fp, _, h => by
    obtain ⟨⟨a, h1, h3⟩, h4⟩ := h
    exact ⟨a, h1, rfl, h3.imp (fun ⟨o, z, zz⟩ => ⟨o, hF _ _ z, zz⟩) id⟩
  | .lam _ _ _, v, fp, _, h => ⟨h.1, rfl, hF _ _ h.2.2⟩
  | .node true s xs, v, fp, hH, h => by
    simp only [Rep] at h
    obtain ⟨a, u, vs, fq, rfl, rfl, h1, h2, h3, h4, h5⟩ := h
    rw [D.fz, Rep]
    exact ⟨a, u, vs, rfl, rfl, hH a (List.mem_cons_self ..) u h1, h2, RepL.freeze hF xs vs fq (fun b hb => hH b (List.mem_cons_of_mem _ hb)) h5⟩
  | .node false s xs, v, fp, hH, h => by
    simp only [Rep] at h
    obtain ⟨a, u, vs, rfl, rfl, h1, h2, h3⟩ := h
    rw [D.fz, Rep]
    exact ⟨a, u, vs, rfl, rfl, hF a u h1, h2, RepL.freeze hF xs vs [] (fun b hb => nomatch hb) h3⟩
theorem RepL.freeze (hF : ∀ a u, F a = some u → F' a = some u) : ∀ (ds : List D) (vs : List V) (fp : List Addr), (∀ a ∈ fp, ∀ u, Has H a u → F' a = some u) → RepL K F H ds vs fp → RepL K F' H' (fzL ds) vs []
  | [], vs, fp, _, h => ⟨h.1, rfl⟩
  | d :: ds, vs, fp, hH, h => by
    simp only [RepL, fzL] at h
    obtain ⟨v, ws, f1, f2, rfl, rfl, h1, h2, h3⟩ := h
    rw [fzL]
    exact RepL.mk (f1 := []) (f2 := []) (fun a z => by cases z) (Rep.freeze hF d v f1 (fun b hb => hH b (List.mem_append_left _ hb)) h2) (RepL.freeze hF ds ws f2 (fun b hb => hH b (List.mem_append_right _ hb)) h3)
end
theorem RepL.get : ∀ (ds : List D) (vs : List V) (fp : List Addr) (i : Nat) (d : D), RepL K F H ds vs fp → ds[i]? = some d → ∃ v fq, vs[i]? = some v ∧ Rep K F H d v fq ∧ ∀ a ∈ fq, a ∈ fp
  | [], vs, fp, i, d, h, e => by simp at e
  | d :: ds, vs, fp, 0, d', h, e => by
    simp only [RepL] at h
    obtain ⟨v, ws, f1, f2, rfl, rfl, h1, h2, h3⟩ := h
    simp at e
    subst e
    exact ⟨v, f1, rfl, h2, fun a ha => List.mem_append_left _ ha⟩
  | d :: ds, vs, fp, i + 1, d', h, e => by
    simp only [RepL] at h
    obtain ⟨v, ws, f1, f2, rfl, rfl, h1, h2, h3⟩ := h
    obtain ⟨v', fq, e1, e2, e3⟩ := RepL.get ds ws f2 i d' h3 (by simpa using e)
    exact ⟨v', fq, by simpa using e1, e2, fun a ha => List.mem_append_right _ (e3 a ha)⟩
end
end DL
namespace DL
open PySem PySem.Spec L2
inductive Sl where
  | dead | own (d : D) | bor (r : Option Nat) (d : D)
abbrev Evn := List Sl
abbrev Fp := Nat → List Addr
def isOwn (env : Evn) (i : Nat) : Prop := ∃ d, env[i]? = some (.own d)
def isLk (env : Evn) (i : Nat) : Prop := ∃ d, env[i]? = some (.bor (some i) d)
def hold (env : Evn) (i : Nat) : Prop := isOwn env i ∨ isLk env i
def OwnA (env : Evn) (fp : Fp) (a : Addr) : Prop := ∃ i, isOwn env i ∧ a ∈ fp i
def LkA (env : Evn) (fp : Fp) (a : Addr) : Prop := ∃ i, isLk env i ∧ a ∈ fp i
def NF (H : Hp) (a : Addr) : Prop := ∀ o u, H a = some (.frz o u) → False
structure Zst where
  B : Addr → Prop
  pins : List (Nat × Option V)
  n : Nat
  gh : List (D × V)
section
variable (K : PySem.W.Frag)
def SlotR (Z : Zst) (F H : Hp) (env : Evn) (σ : St) (fp : Fp) (i : Nat) : Prop := match env[i]? with
  | some (.own d) => ∃ v, σ[i]? = some (some v) ∧ Rep K F H d v (fp i)
  | some (.bor none d) => ∃ v, σ[i]? = some (some v) ∧ Rep K F H d v (fp i) ∧ ∀ a ∈ fp i, Z.B a
  | some (.bor (some j) d) => ∃ v, σ[i]? = some (some v) ∧ Rep K F H d v (fp i) ∧ hold env j ∧ ∀ a ∈ fp i, a ∈ fp j
  | _ => True
structure R (Z : Zst) (F H : Hp) (env : Evn) (σ : St) (fp : Fp) : Prop where
  sub : ∀ a u, F a = some u → Has H a u
  slot : ∀ i, SlotR K Z F H env σ fp i
  sep : ∀ i j, i ≠ j → hold env i → hold env j → ∀ a ∈ fp i, a ∉ fp j
  sepB : ∀ i, hold env i → ∀ a ∈ fp i, ¬ Z.B a
  hF : ∀ i, hold env i → ∀ a ∈ fp i, F a = none
  domB : ∀ a, Z.B a → H a ≠ none
  pin : ∀ p ∈ Z.pins, σ[p.1]? = some p.2
  gh : ∀ p ∈ Z.gh, Rep K F H p.1 p.2 []
  len : σ.length = Z.n ∧ env.length = Z.n
  nf : ∀ i, isOwn env i → ∀ a ∈ fp i, NF H a
end
structure Ev (ε : Bool) (F H : Hp) (env : Evn) (fp : Fp) (F' H' : Hp) (env' : Evn) (fp' : Fp) : Prop where
  keep : ∀ a o, H a = some o → (ε = true → ¬ OwnA env fp a) → H' a = some o
  sub : ∀ a u, F a = some u → F' a = some u
  new : ∀ a, F a = none → F' a ≠ none → H a = none ∨ (ε = true ∧ OwnA env fp a)
  own : ∀ a, OwnA env' fp' a → H a = none ∨ OwnA env fp a
  lks : ∀ i, isLk env' i → env'[i]? = env[i]? ∧ fp' i = fp i
  nofz : ∀ a o u, H' a = some (.frz o u) → H a = some (.frz o u)
  dom : ∀ a, H a ≠ none → H' a ≠ none
  pure : ε = false → env' = env ∧ fp' = fp
inductive Kd where
  | own | frz | bor (j : Nat)
def live (env : Evn) (j : Nat) : Prop := ∃ s, env[j]? = some s ∧ (∀ z : s = Sl.dead, False)
def KOk (k : Kd) (H : Hp) (env : Evn) (fp : Fp) (F' : Hp) (env' : Evn) (fp' : Fp) (fr : List Addr) : Prop := match k with
  | .own => ∀ a ∈ fr, (H a = none ∨ OwnA env fp a) ∧ ¬ OwnA env' fp' a ∧ F' a = none
  | .frz => fr = []
  | .bor j => live env' j ∧ ∀ a ∈ fr, a ∈ fp' j
section
variable {K : PySem.W.Frag} {ε ε1 ε2 : Bool} {F H F1 H1 F2 H2 F' H' : Hp} {env env1 env2 env' : Evn} {fp fp1 fp2 fp' : Fp} {Z : Zst} {σ : St}
theorem Ev.refl (ε : Bool) (r : Z = Z) : Ev ε F H env fp F H env fp :=
  ⟨fun _ _ h _ => h, fun _ _ h => h, fun a h n => absurd h n, fun _ h => .inr h, fun _ _ => ⟨rfl, rfl⟩, fun _ _ _ h => h, fun _ h => h, fun _ => ⟨rfl, rfl⟩⟩
theorem Ev.mono (e : Ev ε F H env fp F' H' env' fp') (h : ε = true → ε1 = true) (p : ε1 = false → ε = false) : Ev ε1 F H env fp F' H' env' fp' :=
  ⟨fun a o x y => e.keep a o x fun z => y (h z), e.sub, fun a x y => (e.new a x y).imp id fun z => ⟨h z.1, z.2⟩, e.own, e.lks, e.nofz, e.dom, fun z => e.pure (p z)⟩
theorem Ev.nd (e : Ev ε F H env fp F' H' env' fp') {a : Addr} (h : H' a = none) : H a = none := by
  cases q : H a with
  | none => rfl
  | some o => exact absurd h (e.dom a (by rw [q]; exact fun z => by cases z))
theorem Ev.isLk (e : Ev ε F H env fp F' H' env' fp') {i : Nat} (h : DL.isLk env' i) : DL.isLk env i := by
  obtain ⟨a1, _⟩ := e.lks i h
  obtain ⟨d, hd⟩ := h
  exact ⟨d, by rw [← a1]; exact hd⟩
theorem Ev.lk (e : Ev ε F H env fp F' H' env' fp') (a : Addr) (h : LkA env' fp' a) : LkA env fp a := by
  obtain ⟨i, hi, ha⟩ := h
  exact ⟨i, e.isLk hi, by rw [← (e.lks i hi).2]; exact ha⟩
theorem Ev.trans (e1 : Ev ε1 F H env fp F1 H1 env1 fp1) (e2 : Ev ε2 F1 H1 env1 fp1 F2 H2 env2 fp2) : Ev (ε1 || ε2) F H env fp F2 H2 env2 fp2 where
  keep := fun a o h n => by
    have h1 := e1.keep a o h fun z => n (by rw [z]; rfl)
    refine e2.keep a o h1 fun z w => ?_
    rcases e1.own a w with q | q
    · rw [h] at q; cases q
    · exact n (by rw [z]; cases ε1 <;> rfl) q
  sub := fun a u h => e2.sub a u (e1.sub a u h)
  new := fun a h n => by
    cases q : F1 a with
    | none =>
      rcases e2.new a q n with z | ⟨z, w⟩
      · exact .inl (e1.nd z)
      · rcases e1.own a w with q | q
        · exact .inl q
        · exact .inr ⟨by rw [z]; cases ε1 <;> rfl, q⟩
    | some u =>
      rcases e1.new a h (by rw [q]; exact fun z => by cases z) with z | ⟨z, w⟩
      · exact .inl z
      · exact .inr ⟨by rw [z]; rfl, w⟩
  own := fun a h => by
    rcases e2.own a h with z | z
    · exact .inl (e1.nd z)
    · exact e1.own a z
  lks := fun i h => by
    obtain ⟨a1, a2⟩ := e2.lks i h
    have h1 : DL.isLk env1 i := by
      obtain ⟨d, hd⟩ := h
      exact ⟨d, by rw [← a1]; exact hd⟩
    obtain ⟨b1, b2⟩ := e1.lks i h1
    exact ⟨a1.trans b1, a2.trans b2⟩
  nofz := fun a o u h => e1.nofz a o u (e2.nofz a o u h)
  dom := fun a h => e2.dom a (e1.dom a h)
  pure := fun z => by
    have z1 : ε1 = false := by cases ε1 <;> cases ε2 <;> simp_all
    have z2 : ε2 = false := by cases ε1 <;> cases ε2 <;> simp_all
    obtain ⟨a1, a2⟩ := e1.pure z1
    obtain ⟨b1, b2⟩ := e2.pure z2
    exact ⟨b1.trans a1, b2.trans a2⟩
theorem R.hold_dom (r : R K Z F H env σ fp) {i : Nat} (h : hold env i) {a : Addr} (ha : a ∈ fp i) : H a ≠ none := by
  have s := r.slot i
  unfold SlotR at s
  rcases h with ⟨d, e⟩ | ⟨d, e⟩ <;> rw [e] at s
  · obtain ⟨v, _, h⟩ := s
    exact Rep.dom d v _ h a ha
  · obtain ⟨v, _, h, _⟩ := s
    exact Rep.dom d v _ h a ha
theorem R.own_dom (r : R K Z F H env σ fp) {a : Addr} (h : OwnA env fp a) : H a ≠ none := let ⟨_, h1, h2⟩ := h; r.hold_dom (.inl h1) h2
theorem R.own_F (r : R K Z F H env σ fp) {a : Addr} (h : OwnA env fp a) : F a = none := let ⟨i, h1, h2⟩ := h; r.hF i (.inl h1) a h2
theorem R.own_B (r : R K Z F H env σ fp) {a : Addr} (h : OwnA env fp a) : ¬ Z.B a := let ⟨i, h1, h2⟩ := h; r.sepB i (.inl h1) a h2
theorem R.own_lk (r : R K Z F H env σ fp) {a : Addr} (h : OwnA env fp a) : ¬ LkA env fp a := fun h' => by
  obtain ⟨i, ⟨d, e⟩, h2⟩ := h
  obtain ⟨j, ⟨d', e'⟩, h4⟩ := h'
  have ne : i ≠ j := fun z => by
    subst z
    rw [e] at e'
    cases e'
  exact r.sep i j ne (.inl ⟨d, e⟩) (.inr ⟨d', e'⟩) a h2 h4
theorem R.own_nf (r : R K Z F H env σ fp) {a : Addr} (h : OwnA env fp a) : NF H a := let ⟨i, h1, h2⟩ := h; r.nf i h1 a h2
theorem Rep.ev {d : D} {v : V} {fr : List Addr} (e : Ev ε F H env fp F' H' env' fp') (h : Rep K F H d v fr) (n : ε = true → ∀ a ∈ fr, ¬ OwnA env fp a) : Rep K F' H' d v fr :=
  Rep.mono e.sub d v fr (fun a ha u hu => hu.same fun o ho => e.keep a o ho fun z => n z a ha) h
theorem KOk.ev {k : Kd} {H0 : Hp} {env0 : Evn} {fp0 : Fp} {d : D} {v : V} {fr : List Addr} (e : Ev ε F H env fp F' H' env' fp') (h : Rep K F H d v fr) (p : ε = true → ∀ j, k ≠ .bor j) (x : KOk k H0 env0 fp0 F env fp fr) :
    Rep K F' H' d v fr ∧ KOk k H0 env0 fp0 F' env' fp' fr := by
  cases k with
  | own =>
    refine ⟨h.ev e fun _ a ha => (x a ha).2.1, fun a ha => ?_⟩
    obtain ⟨x1, x2, x3⟩ := x a ha
    have nd := Rep.dom d v fr h a ha
    refine ⟨x1, fun z => ?_, ?_⟩
    · rcases e.own a z with q | q
      · exact nd q
      · exact x2 q
    · cases q : F' a with
      | none => rfl
      | some u =>
        rcases e.new a x3 (by rw [q]; exact fun z => by cases z) with z | ⟨_, z⟩
        · exact absurd z nd
        · exact absurd z x2
  | frz =>
    have x' : fr = [] := x
    subst x'
    exact ⟨h.ev e (fun _ a ha => by cases ha), rfl⟩
  | bor j =>
    cases ε with
    | true => exact absurd rfl (p rfl j)
    | false =>
      obtain ⟨e1, e2⟩ := e.pure rfl
      subst e1 e2
      exact ⟨h.ev e (fun z => by cases z), x⟩
structure Grow (F H F' H' : Hp) : Prop where
  keep : ∀ a o, H a = some o → H' a = some o
  sub : ∀ a u, F a = some u → F' a = some u
  new : ∀ a, F a = none → F' a ≠ none → H a = none
  has : ∀ a u, F' a = some u → Has H' a u
  nofz : ∀ a o u, H' a = some (.frz o u) → H a = some (.frz o u)
theorem Grow.refl (h : ∀ a u, F a = some u → Has H a u) : Grow F H F H := ⟨fun _ _ h => h, fun _ _ h => h, fun a h n => absurd h n, h, fun _ _ _ h => h⟩
theorem Grow.dom (g : Grow F H F' H') {a : Addr} (h : H a ≠ none) : H' a ≠ none := by
  cases q : H a with
  | none => exact absurd q h
  | some o => rw [g.keep a o q]; exact fun z => by cases z
theorem Grow.trans (a : Grow F H F1 H1) (b : Grow F1 H1 F2 H2) : Grow F H F2 H2 where
  keep := fun x o h => b.keep x o (a.keep x o h)
  sub := fun x u h => b.sub x u (a.sub x u h)
  new := fun x h n => by
    cases q : F1 x with
    | none =>
      have z := b.new x q n
      cases w : H x with
      | none => rfl
      | some o =>
        rw [a.keep x o w] at z
        cases z
    | some u => exact a.new x h (by rw [q]; exact fun z => by cases z)
  has := b.has
  nofz := fun x o u h => a.nofz x o u (b.nofz x o u h)
theorem Rep.grow {d : D} {v : V} {fr : List Addr} (g : Grow F H F' H') (h : Rep K F H d v fr) : Rep K F' H' d v fr :=
  Rep.mono g.sub d v fr (fun a _ u hu => hu.same fun o ho => g.keep a o ho) h
theorem RepL.grow {ds : List D} {vs : List V} {fr : List Addr} (g : Grow F H F' H') (h : RepL K F H ds vs fr) : RepL K F' H' ds vs fr :=
  RepL.mono g.sub ds vs fr (fun a _ u hu => hu.same fun o ho => g.keep a o ho) h
theorem Grow.ev (g : Grow F H F' H') : Ev ε F H env fp F' H' env fp where
  keep := fun a o h _ => g.keep a o h
  sub := g.sub
  new := fun a h n => .inl (g.new a h n)
  own := fun a h => .inr h
  lks := fun _ _ => ⟨rfl, rfl⟩
  nofz := g.nofz
  dom := fun a h => g.dom h
  pure := fun _ => ⟨rfl, rfl⟩
theorem SlotR.map {i : Nat} (h : SlotR K Z F H env σ fp i) (hm : ∀ d v, Rep K F H d v (fp i) → Rep K F' H' d v (fp i)) : SlotR K Z F' H' env σ fp i := by
  unfold SlotR at h ⊢
  split at h
  · obtain ⟨v, h1, h2⟩ := h
    exact ⟨v, h1, hm _ _ h2⟩
  · obtain ⟨v, h1, h2, h3⟩ := h
    exact ⟨v, h1, hm _ _ h2, h3⟩
  · obtain ⟨v, h1, h2, h3⟩ := h
    exact ⟨v, h1, hm _ _ h2, h3⟩
  · trivial
theorem R.grow (r : R K Z F H env σ fp) (g : Grow F H F' H') : R K Z F' H' env σ fp where
  sub := g.has
  slot := fun i => (r.slot i).map fun d v h => h.grow g
  sep := r.sep
  sepB := r.sepB
  hF := fun i hi a ha => by
    cases q : F' a with
    | none => rfl
    | some u => exact absurd (g.new a (r.hF i hi a ha) (by rw [q]; exact fun z => by cases z)) (r.hold_dom hi ha)
  domB := fun a h => g.dom (r.domB a h)
  pin := r.pin
  gh := fun p hp => (r.gh p hp).grow g
  len := r.len
  nf := fun i hi a ha o u h => r.nf i hi a ha o u (g.nofz a o u h)
def notFz : HO → Bool
  | .frz _ _ => false
  | _ => true
theorem IsN.nfz {s : Sh} {vs : List V} {u : HO} (h : IsN K s vs u) : notFz u = true := by
  cases s <;> simp only [IsN] at h
  · rw [h]; rfl
  · rw [h]; rfl
  · rw [h.2]; rfl
  · rw [h.2]; rfl
  · obtain ⟨_, dx, rfl⟩ := h; rfl
  · rw [h.2]; rfl
theorem nofz_upd {p : Addr} {o : HO} (n : notFz o = true) : ∀ a q u, upd H p o a = some (.frz q u) → H a = some (.frz q u) := fun a q u h => by
  by_cases e : a = p
  · rw [e, upd_same] at h
    cases h
    cases n
  · rw [upd_ne e] at h
    exact h
theorem Grow.upd {p : Addr} {o : HO} (h : ∀ a u, F a = some u → Has H a u) (n : H p = none) (nz : notFz o = true := by rfl) : Grow F H F (upd H p o) where
  keep := fun a q e => by rw [upd_ne (ne_of_none e n)]; exact e
  sub := fun _ _ h => h
  new := fun a h n => absurd h n
  has := fun a u e => (h a u e).same fun q e' => by rw [upd_ne (ne_of_none e' n)]; exact e'
  nofz := nofz_upd nz
theorem Grow.updF {p : Addr} {o : HO} (h : ∀ a u, F a = some u → Has H a u) (n : H p = none) (nz : notFz o = true := by rfl) : Grow F H (L2.upd F p o) (L2.upd H p o) where
  keep := fun a q e => by rw [upd_ne (ne_of_none e n)]; exact e
  sub := fun a u e => by
    have ne : a ≠ p := fun z => by
      subst z
      exact (h a u e).ne n
    rw [upd_ne ne]
    exact e
  new := fun a h0 n0 => by
    by_cases z : a = p
    · rw [z]; exact n
    · rw [upd_ne z] at n0
      exact absurd h0 n0
  has := fun a u e => by
    by_cases z : a = p
    · subst z
      rw [upd_same] at e
      exact .inl (by rw [upd_same]; exact e)
    · rw [upd_ne z] at e
      exact (h a u e).same fun q e' => by rw [upd_ne z]; exact e'
  nofz := nofz_upd nz
end
end DL
namespace DL
open PySem PySem.Spec L2
inductive Rs (α : Type) where
  | ok (a : α) (env : Evn) | exc (c : Str) (x : D) (env : Evn) | stuck
def Rs.bind {α β : Type} (r : Rs α) (k : α → Evn → Rs β) : Rs β := match r with
  | .ok a e => k a e
  | .exc c x e => .exc c x e
  | .stuck => .stuck
def Rs.map {α β : Type} (f : α → β) (r : Rs α) : Rs β := r.bind fun a e => .ok (f a) e
@[simp] theorem Rs.bind_ok {α β : Type} (a : α) (e : Evn) (k : α → Evn → Rs β) : (Rs.ok a e).bind k = k a e := (rfl)
@[simp] theorem Rs.bind_exc {α β : Type} (c : Str) (x : D) (e : Evn) (k : α → Evn → Rs β) : (Rs.exc c x e : Rs α).bind k = .exc c x e := (rfl)
@[simp] theorem Rs.bind_stuck {α β : Type} (k : α → Evn → Rs β) : (Rs.stuck : Rs α).bind k = .stuck := (rfl)
@[simp] theorem Rs.map_ok {α β : Type} (a : α) (e : Evn) (f : α → β) : (Rs.ok a e).map f = .ok (f a) e := (rfl)
@[simp] theorem Rs.map_exc {α β : Type} (c : Str) (x : D) (e : Evn) (f : α → β) : (Rs.exc c x e : Rs α).map f = .exc c x e := (rfl)
@[simp] theorem Rs.map_stuck {α β : Type} (f : α → β) : (Rs.stuck : Rs α).map f = .stuck := (rfl)
abbrev FE := Evn → Rs D
abbrev FT := Evn → Rs Bool
abbrev FA := Evn → Rs (List D)
def KOks (H : Hp) (env : Evn) (fp : Fp) (F' : Hp) (env' : Evn) (fp' : Fp) : List Kd → List (List Addr) → Prop
  | [], [] => True
  | k :: ks, f :: fs => KOk k H env fp F' env' fp' f ∧ (k = .own → ∀ (i : Nat) (g : List Addr), ks[i]? = some Kd.own → fs[i]? = some g → ∀ a ∈ f, a ∉ g) ∧ KOks H env fp F' env' fp' ks fs
  | _, _ => False
section
variable (K : PySem.W.Frag)
def RepA (F H : Hp) : List D → List V → List (List Addr) → Prop
  | [], [], [] => True
  | d :: ds, v :: vs, f :: fs => Rep K F H d v f ∧ RepA F H ds vs fs
  | _, _, _ => False
def Post {α : Type} (W : WX) (ε : Bool) (Z : Zst) (F H : Hp) (env : Evn) (σ : L2.St) (fp : Fp) (G : α → Evn → Prop) : Rs α → Prop
  | .ok a env' => G a env'
  | .exc c x env' => ∀ F' H' fp' dx, Ev ε F H env fp F' H' env' fp' → R K Z F' H' env' σ fp' → Rep K F' H' x (.ref dx) [] → W (.ref (He.ga K c)) (some dx) σ H'
  | .stuck => False
def ESim (W : WX) (ε : Bool) (k : Kd) (t : TE) (f : FE) : Prop := ∀ Z F H env σ fp Q, R K Z F H env σ fp →
  Post K W ε Z F H env σ fp (fun d env' => ∀ F' H' fp' v fr, Ev ε F H env fp F' H' env' fp' → R K Z F' H' env' σ fp' → Rep K F' H' d v fr → KOk k H env fp F' env' fp' fr → Q v H') (f env) → t σ H Q
def TSim (W : WX) (ε : Bool) (t : TT) (f : FT) : Prop := ∀ Z F H env σ fp Q, R K Z F H env σ fp →
  Post K W ε Z F H env σ fp (fun b env' => ∀ F' H' fp', Ev ε F H env fp F' H' env' fp' → R K Z F' H' env' σ fp' → Q b H') (f env) → t σ H Q
def ASim (W : WX) (ε : Bool) (ks : List Kd) (t : TA) (f : FA) : Prop := ∀ Z F H env σ fp Q, R K Z F H env σ fp →
  Post K W ε Z F H env σ fp (fun ds env' => ∀ F' H' fp' vs frs, Ev ε F H env fp F' H' env' fp' → R K Z F' H' env' σ fp' → RepA K F' H' ds vs frs → KOks H env fp F' env' fp' ks frs → Q vs H') (f env) → t σ H Q
end
section
variable {K : PySem.W.Frag} {W : WX} {ε ε1 ε2 : Bool} {F H F1 H1 F2 H2 F' H' : Hp} {env env1 env2 env' : Evn} {fp fp1 fp2 fp' : Fp} {Z : Zst} {σ : L2.St} {k k1 k2 : Kd} {ks : List Kd}
theorem KOk.rel {fr : List Addr} (e : Ev ε F H env fp F1 H1 env1 fp1) (x : KOk k H1 env1 fp1 F2 env2 fp2 fr) : KOk k H env fp F2 env2 fp2 fr := by
  cases k with
  | own =>
    intro a ha
    obtain ⟨x1, x2, x3⟩ := x a ha
    refine ⟨?_, x2, x3⟩
    rcases x1 with z | z
    · exact .inl (e.nd z)
    · exact e.own a z
  | frz => exact x
  | bor j => exact x
theorem KOks.rel (e : Ev ε F H env fp F1 H1 env1 fp1) : ∀ {ks : List Kd} {frs : List (List Addr)}, KOks H1 env1 fp1 F2 env2 fp2 ks frs → KOks H env fp F2 env2 fp2 ks frs
  | [], [], _ => trivial
  | [], _ :: _, h => h.elim
  | _ :: _, [], h => h.elim
  | k :: ks, f :: fs, h => ⟨h.1.rel e, h.2.1, KOks.rel e h.2.2⟩
theorem KOks.get : ∀ {ks : List Kd} {frs : List (List Addr)} {i : Nat} {k : Kd} {f : List Addr}, KOks H env fp F' env' fp' ks frs → ks[i]? = some k → frs[i]? = some f → KOk k H env fp F' env' fp' f
  | [], _, i, k, f, _, h, _ => by simp at h
  | _ :: _, [], _, _, _, h, _, _ => h.elim
  | k :: ks, f :: fs, 0, k', f', h, h1, h2 => by
    simp at h1 h2
    subst h1 h2
    exact h.1
  | k :: ks, f :: fs, i + 1, k', f', h, h1, h2 => KOks.get (ks := ks) (frs := fs) (i := i) h.2.2 (by simpa using h1) (by simpa using h2)
theorem Post.seq {α β : Type} {G : β → Evn → Prop} {a : α} (e : Ev ε1 F H env fp F1 H1 env1 fp1) {r : Rs β} (h : Post K W (ε1 || ε2) Z F H env σ fp G r) : Post K W ε2 Z F1 H1 env1 σ fp1 G r := by
  cases r with
  | ok b e' => exact h
  | exc c x e' => exact fun F' H' fp' dx e2 r2 h2 => h F' H' fp' dx (e.trans e2) r2 h2
  | stuck => exact h
theorem Post.imp {α : Type} {G G' : α → Evn → Prop} {r : Rs α} (h : Post K W ε Z F H env σ fp G r) (i : ∀ a e, G a e → G' a e) : Post K W ε Z F H env σ fp G' r := by
  cases r with
  | ok b e' => exact i _ _ h
  | exc c x e' => exact h
  | stuck => exact h
theorem Post.bind {α β : Type} {G : β → Evn → Prop} {G1 : α → Evn → Prop} {r : Rs α} {kk : α → Evn → Rs β} (h : Post K W ε Z F H env σ fp G (r.bind kk)) (hε : ε1 = true → ε = true) (hp : ε = false → ε1 = false)
    (i : ∀ a e, Post K W ε Z F H env σ fp G (kk a e) → G1 a e) : Post K W ε1 Z F H env σ fp G1 r := by
  cases r with
  | ok b e' => exact i _ _ h
  | exc c x e' => exact fun F' H' fp' dx e2 r2 h2 => h F' H' fp' dx (e2.mono hε hp) r2 h2
  | stuck => exact h.elim
theorem orL {a b : Bool} : a = true → (a || b) = true := fun h => by rw [h]; rfl
theorem orLF {a b : Bool} : (a || b) = false → a = false := fun h => by cases a <;> simp_all
theorem orR {a b : Bool} : b = true → (a || b) = true := fun h => by rw [h]; cases a <;> rfl
theorem orRF {a b : Bool} : (a || b) = false → b = false := fun h => by cases a <;> simp_all
def aNil : FA := fun env => .ok [] env
def aCons (f : FE) (g : FA) : FA := fun env => (f env).bind fun d e => (g e).map (d :: ·)
theorem asim_nil : ASim K W false [] tNil aNil := fun Z F H env σ fp Q r h => h F H fp [] [] (Ev.refl (Z := Z) _ rfl) r trivial trivial
theorem asim_cons {te : TE} {ta : TA} {f : FE} {g : FA} (he : ESim K W ε1 k1 te f) (ha : ASim K W ε2 ks ta g) (hp : ε2 = true → ∀ j, k1 ≠ .bor j := by first | exact fun h => (nomatch h) | exact fun _ j h => (nomatch h)) :
    ASim K W (ε1 || ε2) (k1 :: ks) (tCons te ta) (aCons f g) := by
  intro Z F H env σ fp Q r h
  refine he Z F H env σ fp _ r (Post.bind h orL orLF fun d env1 h1 F1 H1 fp1 v fr e1 r1 rep1 k1' => ?_)
  have h1' := Post.seq (a := d) e1 h1
  refine ha Z F1 H1 env1 σ fp1 _ r1 (Post.bind (ε := ε2) h1' id id fun ds env2 h2 F2 H2 fp2 vs frs e2 r2 rep2 k2' => ?_)
  have hk := KOk.ev e2 rep1 hp k1'
  refine h2 F2 H2 fp2 (v :: vs) (fr :: frs) (e1.trans e2) r2 ⟨hk.1, rep2⟩ ⟨hk.2, fun ko i gg hi hg a h3 h4 => ?_, k2'.rel e1⟩
  subst ko
  have q := KOks.get k2' hi hg a h4
  have nd := Rep.dom d v fr rep1 a h3
  rcases q.1 with z | z
  · exact nd z
  · exact (k1' a h3).2.1 z
end
end DL
namespace DL
open PySem PySem.Spec L2
def killS (i : Nat) : Sl → Sl
  | .bor (some j) d => if j = i then .dead else .bor (some j) d
  | s => s
def kill (i : Nat) (env : Evn) : Evn := env.map (killS i)
def putE (i : Nat) (s : Sl) (env : Evn) : Evn := (kill i env).set i s
def fset (fp : Fp) (i : Nat) (f : List Addr) : Fp := fun j => if j = i then f else fp j
theorem fset_same {fp : Fp} {i : Nat} {f : List Addr} : fset fp i f i = f := if_pos rfl
theorem fset_ne {fp : Fp} {i j : Nat} {f : List Addr} (h : j ≠ i) : fset fp i f j = fp j := if_neg h
section
variable {K : PySem.W.Frag} {W : WX} {ε ε1 ε2 : Bool} {F H F1 H1 F2 H2 F' H' F0 H0 : Hp} {env env1 env2 env' env0 : Evn} {fp fp1 fp2 fp' fp0 : Fp} {Z : Zst} {σ σ' : L2.St} {k k1 k2 : Kd} {ks : List Kd}
theorem kill_length (i : Nat) (env : Evn) : (kill i env).length = env.length := List.length_map ..
theorem putE_length (i : Nat) (s : Sl) (env : Evn) : (putE i s env).length = env.length := by unfold putE; rw [List.length_set, kill_length]
theorem putE_same {i : Nat} {s : Sl} (h : i < env.length) : (putE i s env)[i]? = some s := by
  unfold putE
  rw [List.getElem?_set_self (by rw [kill_length]; exact h)]
theorem putE_ne {i j : Nat} {s : Sl} (h : j ≠ i) : (putE i s env)[j]? = (env[j]?).map (killS i) := by
  unfold putE kill
  rw [List.getElem?_set_ne (Ne.symm h), List.getElem?_map]
theorem isOwn_put {i j : Nat} {s : Sl} (h : j ≠ i) : isOwn (putE i s env) j ↔ isOwn env j := by
  unfold isOwn
  rw [putE_ne h]
  constructor
  · rintro ⟨d, e⟩
    cases q : env[j]? with
    | none => rw [q] at e; cases e
    | some t =>
      rw [q] at e
      cases t with
      | own d' => exact ⟨d', rfl⟩
      | dead => cases e
      | bor r d' =>
        cases r with
        | none => cases e
        | some m =>
          simp only [Option.map_some, killS] at e
          split at e <;> cases e
  · rintro ⟨d, e⟩
    exact ⟨d, by rw [e]; rfl⟩
theorem isLk_put {i j : Nat} {s : Sl} (h : j ≠ i) : isLk (putE i s env) j ↔ isLk env j := by
  unfold isLk
  rw [putE_ne h]
  constructor
  · rintro ⟨d, e⟩
    cases q : env[j]? with
    | none => rw [q] at e; cases e
    | some t =>
      rw [q] at e
      cases t with
      | own d' => cases e
      | dead => cases e
      | bor r d' =>
        cases r with
        | none => cases e
        | some m =>
          simp only [Option.map_some, killS] at e
          split at e
          · cases e
          · cases e
            exact ⟨_, rfl⟩
  · rintro ⟨d, e⟩
    exact ⟨d, by rw [e]; simp only [Option.map_some, killS]; rw [if_neg h]⟩
theorem hold_put {i j : Nat} {s : Sl} (h : j ≠ i) : hold (putE i s env) j ↔ hold env j := by
  unfold hold
  rw [isOwn_put h, isLk_put h]
def SlotN (K : PySem.W.Frag) (Z : Zst) (F H : Hp) (env : Evn) (σ' : L2.St) (fp : Fp) (i : Nat) (f' : List Addr) : Sl → Prop
  | .dead => True
  | .own d => (∃ v, σ'[i]? = some (some v) ∧ Rep K F H d v f') ∧ (∀ j, j ≠ i → hold env j → ∀ a ∈ f', a ∉ fp j) ∧ ∀ a ∈ f', (¬ Z.B a ∧ F a = none) ∧ NF H a
  | .bor none d => ∃ v, σ'[i]? = some (some v) ∧ Rep K F H d v f' ∧ ∀ a ∈ f', Z.B a
  | .bor (some j) d => j ≠ i ∧ hold env j ∧ ∃ v, σ'[i]? = some (some v) ∧ Rep K F H d v f' ∧ ∀ a ∈ f', a ∈ fp j
theorem R.put (r : R K Z F H env σ fp) {i : Nat} (hi : i < env.length) {s' : Sl} {f' : List Addr} (hσ : ∀ j, j ≠ i → σ'[j]? = σ[j]?) (hl : σ'.length = σ.length) (hpin : ∀ p ∈ Z.pins, σ'[p.1]? = some p.2)
    (hn : SlotN K Z F H env σ' fp i f' s') : R K Z F H (putE i s' env) σ' (fset fp i f') := by
  have hown : isOwn (putE i s' env) i → ∃ d, s' = .own d := fun ⟨d, e⟩ => by
    rw [putE_same hi] at e
    cases e
    exact ⟨d, rfl⟩
  have hlk : ¬ isLk (putE i s' env) i := fun ⟨d, e⟩ => by
    rw [putE_same hi] at e
    cases e
    exact hn.1 rfl
  have hh : hold (putE i s' env) i → ∃ d, s' = .own d := fun h => by
    rcases h with h | h
    · exact hown h
    · exact absurd h hlk
  refine ⟨r.sub, fun j => ?_, fun j l hjl h1 h2 a ha => ?_, fun j h1 a ha => ?_, fun j h1 a ha => ?_, r.domB, hpin, r.gh, by rw [hl, putE_length]; exact r.len, fun j h1 a ha => ?_⟩
  · by_cases hj : j = i
    · subst hj
      unfold SlotR
      rw [putE_same hi, fset_same]
      cases s' with
      | dead => trivial
      | own d => exact hn.1
      | bor m d =>
        cases m with
        | none => exact hn
        | some m =>
          obtain ⟨h1, h2, v, h3, h4, h5⟩ := hn
          exact ⟨v, h3, h4, (hold_put h1).mpr h2, by rw [fset_ne h1]; exact h5⟩
    · have s := r.slot j
      unfold SlotR at s ⊢
      rw [putE_ne hj, hσ j hj, fset_ne hj]
      cases q : env[j]? with
      | none => trivial
      | some t =>
        rw [q] at s
        cases t with
        | dead => trivial
        | own d => exact s
        | bor m d =>
          cases m with
          | none => exact s
          | some m =>
            simp only [Option.map_some, killS]
            by_cases hm : m = i
            · rw [if_pos hm]; trivial
            · rw [if_neg hm]
              obtain ⟨v, h1, h2, h3, h4⟩ := s
              exact ⟨v, h1, h2, (hold_put hm).mpr h3, by rw [fset_ne hm]; exact h4⟩
  · by_cases hj : j = i
    · subst hj
      obtain ⟨d, rfl⟩ := hh h1
      rw [fset_same] at ha
      rw [fset_ne (Ne.symm hjl)]
      exact hn.2.1 l (Ne.symm hjl) ((hold_put (Ne.symm hjl)).mp h2) a ha
    · rw [fset_ne hj] at ha
      by_cases hl' : l = i
      · subst hl'
        obtain ⟨d, rfl⟩ := hh h2
        rw [fset_same]
        exact fun z => hn.2.1 j hj ((hold_put hj).mp h1) a z ha
      · rw [fset_ne hl']
        exact r.sep j l hjl ((hold_put hj).mp h1) ((hold_put hl').mp h2) a ha
  · by_cases hj : j = i
    · subst hj
      obtain ⟨d, rfl⟩ := hh h1
      rw [fset_same] at ha
      exact (hn.2.2 a ha).1.1
    · rw [fset_ne hj] at ha
      exact r.sepB j ((hold_put hj).mp h1) a ha
  · by_cases hj : j = i
    · subst hj
      obtain ⟨d, rfl⟩ := hh h1
      rw [fset_same] at ha
      exact (hn.2.2 a ha).1.2
    · rw [fset_ne hj] at ha
      exact r.hF j ((hold_put hj).mp h1) a ha
  · by_cases hj : j = i
    · subst hj
      obtain ⟨d, rfl⟩ := hown h1
      rw [fset_same] at ha
      exact (hn.2.2 a ha).2
    · rw [fset_ne hj] at ha
      exact r.nf j ((isOwn_put hj).mp h1) a ha
theorem killS_lk {env : Evn} {s' : Sl} {i j : Nat} (hj : j ≠ i) (h : isLk (putE i s' env) j) : (putE i s' env)[j]? = env[j]? := by
  obtain ⟨d, hd⟩ := (isLk_put hj).mp h
  rw [putE_ne hj, hd]
  simp only [Option.map_some, killS]
  rw [if_neg hj]
theorem Ev.put (e : Ev ε F0 H0 env0 fp0 F H env fp) {i : Nat} (hi : i < env.length) {s' : Sl} {f' : List Addr} (hs : ∀ d, s' = .own d → ∀ a ∈ f', H0 a = none ∨ OwnA env0 fp0 a) (hb : ∀ d, s' ≠ .bor (some i) d) :
    Ev true F0 H0 env0 fp0 F H (putE i s' env) (fset fp i f') where
  keep := fun a o h n => e.keep a o h fun _ => n rfl
  sub := e.sub
  new := fun a h n => (e.new a h n).imp id fun z => ⟨rfl, z.2⟩
  own := fun a ⟨j, h, ha⟩ => by
    by_cases hj : j = i
    · subst hj
      obtain ⟨d, q⟩ := h
      rw [putE_same hi] at q
      cases q
      rw [fset_same] at ha
      exact hs d rfl a ha
    · rw [fset_ne hj] at ha
      exact e.own a ⟨j, (isOwn_put hj).mp h, ha⟩
  lks := fun j h => by
    by_cases hj : j = i
    · subst hj
      obtain ⟨d, q⟩ := h
      rw [putE_same hi] at q
      cases q
      exact absurd rfl (hb d)
    · obtain ⟨a1, a2⟩ := e.lks j ((isLk_put hj).mp h)
      rw [killS_lk hj h, fset_ne hj]
      exact ⟨a1, a2⟩
  nofz := e.nofz
  dom := e.dom
  pure := fun z => by cases z
theorem R.apart (r0 : R K Z F0 H0 env0 σ fp0) (e : Ev ε F0 H0 env0 fp0 F H env fp) {fr : List Addr} (x : KOk .own H0 env0 fp0 F env fp fr) : (∀ j, hold env j → ∀ a ∈ fr, a ∉ fp j) ∧ ∀ a ∈ fr, (¬ Z.B a ∧ F a = none) ∧ NF H a := by
  refine ⟨fun j hj a ha hm => ?_, fun a ha => ⟨⟨fun hB => ?_, (x a ha).2.2⟩, fun o u ho => ?_⟩⟩
  · obtain ⟨x1, x2, x3⟩ := x a ha
    rcases hj with hj | hj
    · exact x2 ⟨j, hj, hm⟩
    · have l0 := e.lk a ⟨j, hj, hm⟩
      rcases x1 with z | z
      · obtain ⟨i, hi, hm'⟩ := l0
        exact r0.hold_dom (.inr hi) hm' z
      · exact r0.own_lk z l0
  · rcases (x a ha).1 with z | z
    · exact r0.domB a hB z
    · exact r0.own_B z hB
  · have h0 := e.nofz a o u ho
    rcases (x a ha).1 with z | z
    · rw [z] at h0
      cases h0
    · exact r0.own_nf z o u h0
end
structure DE (X : Cx) (W : WX) (ε : Bool) (k : Kd) (e : Expr) (f : FE) : Prop where
  ex : ∃ t, PE X e t ∧ ESim X.K W ε k t f
structure DT (X : Cx) (W : WX) (ε : Bool) (e : Expr) (f : FT) : Prop where
  ex : ∃ t, PT X e t ∧ TSim X.K W ε t f
structure DA (X : Cx) (W : WX) (ε : Bool) (ks : List Kd) (es : List Expr) (f : FA) : Prop where
  ex : ∃ t, PA X es t ∧ ASim X.K W ε ks t f
section
variable {X : Cx} {W : WX} {ε ε1 ε2 : Bool} {k k1 k2 : Kd} {ks : List Kd} {e e1 e2 : Expr} {es : List Expr} {f f1 f2 : FE} {g : FA}
theorem da_nil : DA X W false [] [] aNil := ⟨_, pa_nil, asim_nil⟩
theorem da_cons (h1 : DE X W ε1 k1 e f) (h2 : DA X W ε2 ks es g) (hp : ε2 = true → ∀ j, k1 ≠ .bor j := by first | exact fun h => (nomatch h) | exact fun _ j h => (nomatch h))
    (hs : starEach (e :: es) X.env = (false, eval e X.env) :: starEach es X.env := by rfl) : DA X W (ε1 || ε2) (k1 :: ks) (e :: es) (aCons f g) := by
  obtain ⟨t1, p1, s1⟩ := h1.ex
  obtain ⟨t2, p2, s2⟩ := h2.ex
  exact ⟨_, pa_cons p1 p2 hs, asim_cons s1 s2 hp⟩
def fC (d : D) : FE := fun env => .ok d env
def plainV : D → Option V
  | .non => some .non
  | .bl b => some (.bl b)
  | .int i => some (.int i)
  | .str x => some (.str x)
  | .ob a => some (.ref a)
  | .ty n => some (.ty n)
  | _ => none
theorem Rep.plain {K : PySem.W.Frag} {F H : Hp} {d : D} {v : V} (h : plainV d = some v) : Rep K F H d v [] := by
  cases d <;> simp only [plainV, Option.some.injEq, reduceCtorEq] at h <;> subst h <;> exact ⟨rfl, rfl⟩
theorem esim_c {K : PySem.W.Frag} {d : D} {v : V} (h : plainV d = some v) : ESim K W false .frz (tC v) (fC d) :=
  fun Z F H env σ fp Q r hq => hq F H fp v [] (Ev.refl (Z := Z) _ rfl) r (.plain h) rfl
theorem de_int {i j pos} : DE X W false .frz (.Constant (.int i) j pos) (fC (.int i)) := ⟨_, pe_int, esim_c rfl⟩
theorem de_bl {b j pos} : DE X W false .frz (.Constant (.bool b) j pos) (fC (.bl b)) := ⟨_, pe_bl, esim_c rfl⟩
theorem de_non {j pos} : DE X W false .frz (.Constant .none j pos) (fC .non) := ⟨_, pe_non, esim_c rfl⟩
theorem de_str {x j pos} : DE X W false .frz (.Constant (.str x) j pos) (fC (.str x)) := ⟨_, pe_str, esim_c rfl⟩
def getS (env : Evn) (i : Nat) : Option D := match env[i]? with
  | some (.own d) => some d
  | some (.bor _ d) => some d
  | _ => none
def optR {α : Type} (o : Option α) (env : Evn) : Rs α := match o with
  | some a => .ok a env
  | none => .stuck
@[simp] theorem optR_some {α : Type} (a : α) (env : Evn) : optR (some a) env = .ok a env := (rfl)
@[simp] theorem optR_none {α : Type} (env : Evn) : (optR none env : Rs α) = .stuck := (rfl)
def fVar (i : Nat) : FE := fun env => optR (getS env i) env
theorem R.getS {K : PySem.W.Frag} {Z : Zst} {F H : Hp} {env : Evn} {σ : L2.St} {fp : Fp} (r : R K Z F H env σ fp) {i : Nat} {d : D} (h : DL.getS env i = some d) : ∃ v, σ[i]? = some (some v) ∧ Rep K F H d v (fp i) ∧ live env i := by
  have s := r.slot i
  unfold SlotR at s
  unfold DL.getS at h
  cases q : env[i]? with
  | none => rw [q] at h; cases h
  | some t =>
    rw [q] at s h
    cases t with
    | dead => cases h
    | own d' =>
      cases h
      obtain ⟨v, h1, h2⟩ := s
      exact ⟨v, h1, h2, _, q, fun z => by cases z⟩
    | bor m d' =>
      cases h
      cases m with
      | none =>
        obtain ⟨v, h1, h2, _⟩ := s
        exact ⟨v, h1, h2, _, q, fun z => by cases z⟩
      | some m =>
        obtain ⟨v, h1, h2, _⟩ := s
        exact ⟨v, h1, h2, _, q, fun z => by cases z⟩
theorem esim_var {K : PySem.W.Frag} {i : Nat} : ESim K W false (.bor i) (tVar i) (fVar i) := fun Z F H env σ fp Q r hq => by
  unfold fVar at hq
  cases q : DL.getS env i with
  | none => rw [q] at hq; exact hq.elim
  | some d =>
    rw [q] at hq
    obtain ⟨v, h1, h2, h3⟩ := r.getS q
    exact ⟨v, h1, hq F H fp v (fp i) (Ev.refl (Z := Z) _ rfl) r h2 ⟨h3, fun a h => h⟩⟩
theorem de_var (i : Nat) {x : Str} {pos : Pos} (hN : X.N[i]? = some x := by rfl) (hv : Vis X.env.scope x := by first | exact Or.inl rfl | exact Or.inr (Or.inl rfl) | exact Or.inr (Or.inr rfl)) (hd : (x == ("__debug__" : Str)) = false := by decide)
    (hcd : (x == ("__classdict__" : Str)) = false := by decide) : DE X W false (.bor i) (.Name x pos) (fVar i) := ⟨_, pe_var hN hv hd hcd, esim_var⟩
def fChk (f : FE) : FE := fun env => (f env).bind fun d e => if d.frz = true then .ok d e else .stuck
theorem esim_chk {K : PySem.W.Frag} {t : TE} (h : ESim K W ε k t f) : ESim K W ε .frz t (fChk f) := fun Z F H env σ fp Q r hq => by
  refine h Z F H env σ fp Q r (Post.bind hq id id fun d e1 h1 F' H' fp' v fr ev r' rep _ => ?_)
  by_cases z : d.frz = true
  · rw [if_pos z] at h1
    have e := Rep.frz_nil d v fr z rep
    subst e
    exact h1 F' H' fp' v [] ev r' rep rfl
  · rw [if_neg z] at h1
    exact h1.elim
theorem de_chk (h : DE X W ε k e f) : DE X W ε .frz e (fChk f) := let ⟨_, p, s⟩ := h.ex; ⟨_, p, esim_chk s⟩
def fMv (i : Nat) : FE := fun env => match env[i]? with
  | some (.own d) => .ok d (putE i .dead env)
  | some (.bor _ d) => if d.frz = true then .ok d env else .stuck
  | _ => .stuck
theorem esim_mv {K : PySem.W.Frag} {i : Nat} : ESim K W true .own (tVar i) (fMv i) := fun Z F H env σ fp Q r hq => by
  have s := r.slot i
  unfold SlotR at s
  unfold fMv at hq
  cases q : env[i]? with
  | none => rw [q] at hq; exact hq.elim
  | some t =>
    rw [q] at s hq
    have hi : i < env.length := (List.getElem?_eq_some_iff.mp q).1
    cases t with
    | dead => exact hq.elim
    | own d =>
      obtain ⟨v, h1, h2⟩ := s
      have ho : isOwn env i := ⟨d, q⟩
      refine ⟨v, h1, hq F H (fset fp i []) v (fp i) ((Ev.refl (Z := Z) false rfl).put hi (fun d h => by cases h) fun d h => by cases h) (r.put hi (fun _ _ => rfl) rfl r.pin trivial) h2 fun a ha => ⟨.inr ⟨i, ho, ha⟩, fun ⟨j, hj, hm⟩ => ?_, r.hF i (.inl ho) a ha⟩⟩
      by_cases hji : j = i
      · subst hji
        rw [fset_same] at hm
        cases hm
      · rw [fset_ne hji] at hm
        exact r.sep i j (Ne.symm hji) (.inl ho) (.inl ((isOwn_put hji).mp hj)) a ha hm
    | bor m d =>
      have key : ∃ v, σ[i]? = some (some v) ∧ Rep K F H d v (fp i) := by
        cases m with
        | none =>
          obtain ⟨v, h1, h2, _⟩ := s
          exact ⟨v, h1, h2⟩
        | some m =>
          obtain ⟨v, h1, h2, _⟩ := s
          exact ⟨v, h1, h2⟩
      obtain ⟨v, h1, h2⟩ := key
      by_cases z : d.frz = true
      · simp only [z] at hq
        have e := Rep.frz_nil d v _ z h2
        rw [e] at h2
        exact ⟨v, h1, hq F H fp v [] (Ev.refl (Z := Z) _ rfl) r h2 fun a ha => by cases ha⟩
      · simp only [z] at hq
        exact hq.elim
theorem de_mv (i : Nat) {x : Str} {pos : Pos} (hN : X.N[i]? = some x := by rfl) (hv : Vis X.env.scope x := by first | exact Or.inl rfl | exact Or.inr (Or.inl rfl) | exact Or.inr (Or.inr rfl)) (hd : (x == ("__debug__" : Str)) = false := by decide)
    (hcd : (x == ("__classdict__" : Str)) = false := by decide) : DE X W true .own (.Name x pos) (fMv i) := ⟨_, pe_var hN hv hd hcd, esim_mv⟩
end
end DL
namespace DL
open PySem PySem.Spec L2
def OpOk (K : PySem.W.Frag) (r : List V → Hp → VK → Prop) (g : List D → Option D) : Prop :=
  ∀ (F H : Hp) (ds : List D) (vs : List V) (frs : List (List Addr)) (d : D) (Q : VK), (∀ a u, F a = some u → Has H a u) → RepA K F H ds vs frs → g ds = some d →
    (∀ F' H' v fr, Grow F H F' H' → Rep K F' H' d v fr → (∀ a ∈ fr, H a = none ∧ F' a = none) → Q v H') → r vs H Q
def fOp (g : List D → Option D) (fa : FA) : FE := fun env => (fa env).bind fun ds e => optR (g ds) e
section
variable {K : PySem.W.Frag} {W : WX} {ε ε1 ε2 : Bool} {k k1 k2 : Kd} {ks : List Kd}
theorem esim_op {ta : TA} {fa : FA} {t' : TE} {r : List V → Hp → VK → Prop} {g : List D → Option D} (ha : ASim K W ε ks ta fa) (ho : OpOk K r g) (ht : ∀ σ H Q, ta σ H (fun vs H' => r vs H' Q) → t' σ H Q) : ESim K W ε .own t' (fOp g fa) := by
  intro Z F H env σ fp Q r0 hq
  refine ht σ H Q (ha Z F H env σ fp _ r0 (Post.bind hq id id fun ds e1 h1 F1 H1 fp1 vs frs ev r1 rep ko => ?_))
  cases q : g ds with
  | none => rw [q] at h1; exact h1.elim
  | some d =>
    rw [q] at h1
    refine ho F1 H1 ds vs frs d Q r1.sub rep q fun F' H' v fr gr rp fresh => ?_
    have ev2 : Ev ε F H env fp F' H' e1 fp1 := (ev.trans (gr.ev (ε := ε))).mono (by cases ε <;> simp) (by cases ε <;> simp)
    refine h1 F' H' fp1 v fr ev2 (r1.grow gr) rp fun a ha => ⟨.inl (ev.nd (fresh a ha).1), fun z => r1.own_dom z (fresh a ha).1, (fresh a ha).2⟩
def l1 (r : V → Hp → VK → Prop) : List V → Hp → VK → Prop := fun vs H Q => match vs with
  | [x] => r x H Q
  | _ => False
def l2 (r : R2) : List V → Hp → VK → Prop := fun vs H Q => match vs with
  | [x, y] => r x y H Q
  | _ => False
theorem OpOk.or {r r' : List V → Hp → VK → Prop} {g : List D → Option D} (h : ∀ ds, (∃ g1, OpOk K r g1 ∧ g ds = g1 ds) ∨ ∃ g1, OpOk K r' g1 ∧ g ds = g1 ds) : OpOk K (fun vs H Q => r vs H Q ∨ r' vs H Q) g := by
  intro F H ds vs frs d Q hs rep e q
  rcases h ds with ⟨g1, h1, h2⟩ | ⟨g1, h1, h2⟩
  · exact .inl (h1 F H ds vs frs d Q hs rep (by rw [← h2]; exact e) q)
  · exact .inr (h1 F H ds vs frs d Q hs rep (by rw [← h2]; exact e) q)
theorem RepA.inv {F H : Hp} {x : D} {ds : List D} : ∀ {vs : List V} {frs : List (List Addr)}, RepA K F H (x :: ds) vs frs → ∃ v ws f fs, vs = v :: ws ∧ frs = f :: fs ∧ Rep K F H x v f ∧ RepA K F H ds ws fs
  | [], [], h => h.elim
  | [], _ :: _, h => h.elim
  | _ :: _, [], h => h.elim
  | v :: ws, f :: fs, h => ⟨v, ws, f, fs, rfl, rfl, h.1, h.2⟩
theorem RepA.inv0 {F H : Hp} : ∀ {vs : List V} {frs : List (List Addr)}, RepA K F H [] vs frs → vs = [] ∧ frs = []
  | [], [], h => ⟨rfl, rfl⟩
  | [], _ :: _, h => h.elim
  | _ :: _, [], h => h.elim
  | _ :: _, _ :: _, h => h.elim
theorem RepA.one {F H : Hp} {x : D} {vs : List V} {frs : List (List Addr)} (h : RepA K F H [x] vs frs) : ∃ v f, vs = [v] ∧ frs = [f] ∧ Rep K F H x v f := by
  obtain ⟨v, ws, f, fs, rfl, rfl, h1, h2⟩ := h.inv
  obtain ⟨rfl, rfl⟩ := h2.inv0
  exact ⟨v, f, rfl, rfl, h1⟩
theorem RepA.two {F H : Hp} {x y : D} {vs : List V} {frs : List (List Addr)} (h : RepA K F H [x, y] vs frs) : ∃ v w f g, vs = [v, w] ∧ frs = [f, g] ∧ Rep K F H x v f ∧ Rep K F H y w g := by
  obtain ⟨v, ws, f, fs, rfl, rfl, h1, h2⟩ := h.inv
  obtain ⟨w, g, rfl, rfl, h3⟩ := h2.one
  exact ⟨v, w, f, g, rfl, rfl, h1, h3⟩
theorem Rep.node {F H : Hp} {o : Bool} {s : Sh} {xs : List D} {v : V} {fr : List Addr} (h : Rep K F H (.node o s xs) v fr) (hs : ∀ a u, F a = some u → Has H a u) : ∃ a u vs fq, v = .ref a ∧ Has H a u ∧ IsN K s vs u ∧ RepL K F H xs vs fq ∧ ∀ b ∈ fq, b ∈ fr := by
  cases o with
  | true =>
    simp only [Rep] at h
    obtain ⟨a, u, vs, fq, rfl, rfl, h1, h2, h3, h4, h5⟩ := h
    exact ⟨a, u, vs, fq, rfl, h1, h2, h5, fun b hb => List.mem_cons_of_mem _ hb⟩
  | false =>
    simp only [Rep] at h
    obtain ⟨a, u, vs, rfl, rfl, h1, h2, h3⟩ := h
    exact ⟨a, u, vs, [], rfl, hs a u h1, h2, h3, fun b hb => by cases hb⟩
theorem Rep.lst {F H : Hp} {o : Bool} {xs : List D} {v : V} {fr : List Addr} (h : Rep K F H (.node o .lst xs) v fr) (hs : ∀ a u, F a = some u → Has H a u) : ∃ a vs fq, v = .ref a ∧ H a = some (.lst vs) ∧ RepL K F H xs vs fq ∧ ∀ b ∈ fq, b ∈ fr := by
  obtain ⟨a, u, vs, fq, rfl, h1, h2, h3, h4⟩ := h.node hs
  cases h2
  exact ⟨a, vs, fq, rfl, h1.ex rfl, h3, h4⟩
theorem Rep.tup {F H : Hp} {o : Bool} {xs : List D} {v : V} {fr : List Addr} (h : Rep K F H (.node o .tup xs) v fr) (hs : ∀ a u, F a = some u → Has H a u) : ∃ a vs fq, v = .ref a ∧ H a = some (.tup vs) ∧ RepL K F H xs vs fq ∧ ∀ b ∈ fq, b ∈ fr := by
  obtain ⟨a, u, vs, fq, rfl, h1, h2, h3, h4⟩ := h.node hs
  cases h2
  exact ⟨a, vs, fq, rfl, h1.ex rfl, h3, h4⟩
theorem RepL.nil0 {F H : Hp} {ds : List D} {vs : List V} {fr : List Addr} (h : RepL K F H ds vs fr) (z : frzL ds = true) : RepL K F H ds vs [] := by
  have e := RepL.frz_nil ds vs fr z h
  rw [← e]; exact h
theorem RepL.append {F H : Hp} : ∀ {ds es : List D} {vs ws : List V} {f g : List Addr}, RepL K F H ds vs f → RepL K F H es ws g → (∀ a ∈ f, a ∉ g) → RepL K F H (ds ++ es) (vs ++ ws) (f ++ g)
  | [], es, vs, ws, f, g, h, h', _ => by
    obtain ⟨rfl, rfl⟩ := h
    exact h'
  | d :: ds, es, vs, ws, f, g, h, h', n => by
    simp only [RepL] at h
    obtain ⟨v, us, f1, f2, rfl, rfl, h1, h2, h3⟩ := h
    rw [List.append_assoc]
    refine RepL.mk (fun a ha => ?_) h2 (RepL.append h3 h' fun a ha => n a (List.mem_append_right _ ha))
    intro hm
    rcases List.mem_append.mp hm with hm | hm
    · exact h1 a ha hm
    · exact n a (List.mem_append_left _ ha) hm
theorem RepL.append0 {F H : Hp} {ds es : List D} {vs ws : List V} (h : RepL K F H ds vs []) (h' : RepL K F H es ws []) : RepL K F H (ds ++ es) (vs ++ ws) [] := RepL.append h h' fun a ha => by cases ha
theorem new_lst {F H : Hp} {xs : List D} {vs : List V} {Q : VK} (hs : ∀ a u, F a = some u → Has H a u) (h : RepL K F H xs vs []) (q : ∀ F' H' v fr, Grow F H F' H' → Rep K F' H' (.node true .lst xs) v fr → (∀ a ∈ fr, H a = none ∧ F' a = none) → Q v H') :
    ∀ p, H p = none → Q (.ref p) (upd H p (.lst vs)) := fun p n => by
  have g := Grow.upd (o := .lst vs) hs n
  refine q F _ (.ref p) [p] g ?_ fun a ha => ?_
  · rw [Rep]
    exact ⟨p, .lst vs, vs, [], rfl, rfl, .inl upd_same, rfl, by simp, (fun z => by cases z), h.grow g⟩
  · have e : a = p := by simpa using ha
    subst e
    refine ⟨n, ?_⟩
    cases z : F a with
    | none => rfl
    | some u => exact absurd n (hs a u z).ne
theorem new_tup {F H : Hp} {xs : List D} {vs : List V} {Q : VK} (hs : ∀ a u, F a = some u → Has H a u) (h : RepL K F H xs vs []) (q : ∀ F' H' v fr, Grow F H F' H' → Rep K F' H' (.node false .tup xs) v fr → (∀ a ∈ fr, H a = none ∧ F' a = none) → Q v H') :
    ∀ p, H p = none → Q (.ref p) (upd H p (.tup vs)) := fun p n => by
  have g := Grow.updF (o := .tup vs) hs n
  refine q _ _ (.ref p) [] g ?_ fun a ha => by cases ha
  rw [Rep]
  exact ⟨p, .tup vs, vs, rfl, rfl, upd_same, rfl, h.grow g⟩
theorem same_q {F H : Hp} {d : D} {v : V} {Q : VK} (hs : ∀ a u, F a = some u → Has H a u) (h : Rep K F H d v []) (q : ∀ F' H' v fr, Grow F H F' H' → Rep K F' H' d v fr → (∀ a ∈ fr, H a = none ∧ F' a = none) → Q v H') : Q v H :=
  q F H v [] (.refl hs) h fun a ha => by cases ha
def oI2 (C : Int → Int → Prop) [∀ i j, Decidable (C i j)] (g : Int → Int → D) : List D → Option D
  | [.int i, .int j] => if C i j then some (g i j) else none
  | _ => none
def oI0 (g : Int → Int → D) : List D → Option D
  | [.int i, .int j] => some (g i j)
  | _ => none
theorem ok_I0 {g : Int → Int → V} {g' : Int → Int → D} (hg : ∀ i j, plainV (g' i j) = some (g i j)) : OpOk K (l2 (rI0 g)) (oI0 g') := by
  intro F H ds vs frs d Q hs rep e q
  unfold oI0 at e
  split at e
  · rename_i i j
    cases e
    obtain ⟨v, w, f, g1, rfl, rfl, h1, h2⟩ := rep.two
    obtain ⟨rfl, rfl⟩ := h1
    obtain ⟨rfl, rfl⟩ := h2
    exact ⟨i, j, rfl, rfl, same_q hs (.plain (hg i j)) q⟩
  · cases e
theorem ok_I2 {C : Int → Int → Prop} [∀ i j, Decidable (C i j)] {C' : Int → Int → Prop} {g : Int → Int → V} {g' : Int → Int → D} (hC : ∀ i j, C i j → C' i j) (hg : ∀ i j, plainV (g' i j) = some (g i j)) : OpOk K (l2 (rI C' g)) (oI2 C g') := by
  intro F H ds vs frs d Q hs rep e q
  unfold oI2 at e
  split at e
  · rename_i i j
    split at e
    · rename_i hc
      cases e
      obtain ⟨v, w, f, g1, rfl, rfl, h1, h2⟩ := rep.two
      obtain ⟨rfl, rfl⟩ := h1
      obtain ⟨rfl, rfl⟩ := h2
      exact ⟨i, j, rfl, rfl, hC i j hc, same_q hs (.plain (hg i j)) q⟩
    · cases e
  · cases e
end
section
variable {X : Cx} {W : WX} {ε ε1 ε2 : Bool} {k k1 k2 : Kd} {ks : List Kd} {a b : Expr} {es : List Expr} {fa fb : FE} {pos : Pos}
theorem da_two (ha : DE X W ε1 k1 a fa) (hb : DE X W ε2 k2 b fb) (hp : ε2 = true → ∀ j, k1 ≠ .bor j := by first | exact fun h => (nomatch h) | exact fun _ j h => (nomatch h)) :
    ∃ ta tb, PE X a ta ∧ PE X b tb ∧ ASim X.K W (ε1 || (ε2 || false)) [k1, k2] (tCons ta (tCons tb tNil)) (aCons fa (aCons fb aNil)) := by
  obtain ⟨ta, p1, s1⟩ := ha.ex
  obtain ⟨tb, p2, s2⟩ := hb.ex
  exact ⟨ta, tb, p1, p2, asim_cons s1 (asim_cons s2 asim_nil) (fun h => hp (by cases ε2 <;> simp_all))⟩
theorem de_bin {op : Operator} {r : R2} {g : List D → Option D} (hr : OpR X (binaryOp op) r) (ho : OpOk X.K (l2 r) g) (ha : DE X W ε1 k1 a fa) (hb : DE X W ε2 k2 b fb)
    (hp : ε2 = true → ∀ j, k1 ≠ .bor j := by first | exact fun h => (nomatch h) | exact fun _ j h => (nomatch h)) : DE X W (ε1 || (ε2 || false)) .own (.BinOp a op b pos) (fOp g (aCons fa (aCons fb aNil))) := by
  obtain ⟨ta, tb, p1, p2, s⟩ := da_two ha hb hp
  exact ⟨_, pe_op hr p1 p2, esim_op s ho fun σ H Q h => h⟩
theorem de_cmp {op : CmpOp} {r : R2} {g : List D → Option D} (hr : OpR X (compareOp op) r) (ho : OpOk X.K (l2 r) g) (ha : DE X W ε1 k1 a fa) (hb : DE X W ε2 k2 b fb)
    (hp : ε2 = true → ∀ j, k1 ≠ .bor j := by first | exact fun h => (nomatch h) | exact fun _ j h => (nomatch h)) (hm : behindInMarks op b = false := by first | exact nomark _ | rfl) : DE X W (ε1 || (ε2 || false)) .own (.Compare a [op] [b] pos) (fOp g (aCons fa (aCons fb aNil))) := by
  obtain ⟨ta, tb, p1, p2, s⟩ := da_two ha hb hp
  exact ⟨_, pe_cmpR hr p1 p2 hm, esim_op s ho fun σ H Q h => h⟩
theorem de_un {op : UnaryOp} {r : V → Hp → VK → Prop} {g : List D → Option D} (hr : UnR X (unaryOp op) r) (ho : OpOk X.K (l1 r) g) (ha : DE X W ε1 k1 a fa) : DE X W (ε1 || false) .own (.UnaryOp op a pos) (fOp g (aCons fa aNil)) := by
  obtain ⟨ta, p1, s1⟩ := ha.ex
  exact ⟨_, pe_un hr p1, esim_op (asim_cons s1 asim_nil) ho fun σ H Q h => h⟩
end
end DL
namespace DL
open PySem PySem.Spec L2
section
variable {K : PySem.W.Frag} {F H : Hp}
def oAdd : List D → Option D
  | [.int i, .int j] => some (.int (i + j))
  | [.str x, .str y] => if x.length + y.length ≤ sizeLine then some (.str (x ++ y)) else none
  | [.node _ .lst xs, .node _ .lst ys] => if frzL xs = true ∧ frzL ys = true ∧ xs.length + ys.length ≤ sizeLine then some (.node true .lst (xs ++ ys)) else none
  | [.node _ .tup xs, .node _ .tup ys] => if frzL xs = true ∧ frzL ys = true ∧ xs ≠ [] ∧ ys ≠ [] ∧ xs.length + ys.length ≤ sizeLine then some (.node false .tup (xs ++ ys)) else none
  | _ => none
def rAdd4 (K : PySem.W.Frag) : R2 := fun x y H Q => (rI0 (fun i j => .int (i + j)) x y H Q ∨ (∃ i j, x = .str i ∧ y = .str j ∧ i.length + j.length ≤ sizeLine ∧ Q (.str (i ++ j)) H)) ∨ (rCat x y H Q ∨ rCatT K x y H Q)
theorem op_add4 {X : Cx} : OpR X (binaryOp .Add) (rAdd4 X.K) := (op_add.or op_add_str).or (op_cat.or op_catT)
theorem ok_add : OpOk K (l2 (rAdd4 K)) oAdd := by
  intro F H ds vs frs d Q hs rep e q
  unfold oAdd at e
  split at e
  · cases e
    obtain ⟨v, w, f, g1, rfl, rfl, ⟨rfl, rfl⟩, ⟨rfl, rfl⟩⟩ := rep.two
    exact .inl (.inl ⟨_, _, rfl, rfl, same_q hs (.plain rfl) q⟩)
  · split at e
    · rename_i hz
      cases e
      obtain ⟨v, w, f, g1, rfl, rfl, ⟨rfl, rfl⟩, ⟨rfl, rfl⟩⟩ := rep.two
      exact .inl (.inr ⟨_, _, rfl, rfl, hz, same_q hs (.plain rfl) q⟩)
    · cases e
  · split at e
    · rename_i hz
      obtain ⟨z1, z2, z3⟩ := hz
      cases e
      obtain ⟨v, w, f, g1, rfl, rfl, h1, h2⟩ := rep.two
      obtain ⟨a, va, fa, rfl, ha, ra, _⟩ := h1.lst hs
      obtain ⟨b, vb, fb, rfl, hb, rb, _⟩ := h2.lst hs
      refine .inr (.inl ⟨a, b, va, vb, rfl, rfl, ha, hb, by rw [ra.len, rb.len]; exact z3, new_lst hs ((ra.nil0 z1).append0 (rb.nil0 z2)) q⟩)
    · cases e
  · split at e
    · rename_i hz
      obtain ⟨z1, z2, z3, z4, z5⟩ := hz
      cases e
      obtain ⟨v, w, f, g1, rfl, rfl, h1, h2⟩ := rep.two
      obtain ⟨a, va, fa, rfl, ha, ra, _⟩ := h1.tup hs
      obtain ⟨b, vb, fb, rfl, hb, rb, _⟩ := h2.tup hs
      refine .inr (.inr ⟨a, b, va, vb, rfl, rfl, .of ha, .of hb, fun z => ?_, by rw [ra.len, rb.len]; exact z5, fun z => ?_, fun _ => new_tup hs ((ra.nil0 z1).append0 (rb.nil0 z2)) q⟩)
      · have l := ra.len
        rw [z] at l
        exact z3 (List.length_eq_zero_iff.mp l.symm)
      · have l := rb.len
        rw [z] at l
        exact absurd (List.length_eq_zero_iff.mp l.symm) z4
    · cases e
  · cases e
def oSub : List D → Option D := oI0 fun i j => .int (i - j)
theorem ok_sub : OpOk K (l2 (rI0 fun i j => .int (i - j))) oSub := ok_I0 fun _ _ => rfl
def oMul : List D → Option D := oI2 (fun i j => (-(2 ^ 64) < i ∧ i < 2 ^ 64) ∨ (-(2 ^ 64) < j ∧ j < 2 ^ 64)) fun i j => .int (i * j)
theorem ok_mul : OpOk K (l2 (rI CMul fun i j => .int (i * j))) oMul := ok_I2 (fun _ _ h => h) fun _ _ => rfl
def oFdiv : List D → Option D := oI2 (fun i j => 0 < j ∧ (j < 1073741824 ∨ j.natAbs.log2 < 9000)) fun i j => .int (i / j)
theorem ok_fdiv : OpOk K (l2 (rI CDivW fun i j => .int (i / j))) oFdiv := ok_I2 (fun i j h => ⟨h.1, by
  rcases h.2 with z | z
  · by_cases hj : j.natAbs = 0
    · rw [hj]; decide
    · have l : j.natAbs.log2 < 30 := (Nat.log2_lt hj).mpr (by omega)
      omega
  · exact z⟩) fun _ _ => rfl
def oMod : List D → Option D := oI2 (fun _ j => 0 < j) fun i j => .int (i % j)
theorem ok_mod : OpOk K (l2 (rI (fun _ j => 0 < j) fun i j => .int (i % j))) oMod := ok_I2 (fun _ _ h => h) fun _ _ => rfl
def oPow : List D → Option D := oI2 (fun i j => 0 ≤ j ∧ j ≤ 1000000 ∧ i.natAbs < 2 ^ 64) fun i j => .int (i ^ j.toNat)
theorem ok_pow : OpOk K (l2 (rI CPow fun i j => .int (i ^ j.toNat))) oPow := ok_I2 (fun _ _ h => h) fun _ _ => rfl
def oLt : List D → Option D := oI0 fun i j => .bl (decide (i < j))
def oLe : List D → Option D := oI0 fun i j => .bl (decide (i ≤ j))
def oGt : List D → Option D := oI0 fun i j => .bl (decide (j < i))
def oGe : List D → Option D := oI0 fun i j => .bl (decide (j ≤ i))
theorem ok_lt : OpOk K (l2 (rI0 fun i j => .bl (decide (i < j)))) oLt := ok_I0 fun _ _ => rfl
theorem ok_le : OpOk K (l2 (rI0 fun i j => .bl (decide (i ≤ j)))) oLe := ok_I0 fun _ _ => rfl
theorem ok_gt : OpOk K (l2 (rI0 fun i j => .bl (decide (j < i)))) oGt := ok_I0 fun _ _ => rfl
theorem ok_ge : OpOk K (l2 (rI0 fun i j => .bl (decide (j ≤ i)))) oGe := ok_I0 fun _ _ => rfl
def oNeg : List D → Option D
  | [.int i] => some (.int (-i))
  | _ => none
theorem ok_neg : OpOk K (l1 (rU fun i => .int (-i))) oNeg := by
  intro F H ds vs frs d Q hs rep e q
  unfold oNeg at e
  split at e
  · cases e
    obtain ⟨v, f, rfl, rfl, rfl, rfl⟩ := rep.one
    exact ⟨_, rfl, same_q hs (.plain rfl) q⟩
  · cases e
mutual
def toPD : D → Option PyData
  | .non => some .none
  | .bl b => some (.bool b)
  | .int i => some (.int i)
  | .str x => some (.str x)
  | .node _ .lst xs => (toPDL xs).map .list
  | .node _ .tup xs => (toPDL xs).map .tuple
  | .node _ (.dic _) _ => none
  | .node _ (.dit _) _ => none
  | .node _ (.ins _ _) _ => none
  | .node _ (.exd _) _ => none
  | .ob _ => none
  | .ty _ => none
  | .scr _ => none
  | .tscr _ _ => none
  | .lam _ _ _ => none
def toPDL : List D → Option (List PyData)
  | [] => some []
  | d :: ds => (toPD d).bind fun p => (toPDL ds).map (p :: ·)
end
mutual
theorem dp_of (hs : ∀ a u, F a = some u → Has H a u) : ∀ (d : D) (v : V) (fr : List Addr) (p : PyData), toPD d = some p → Rep K F H d v fr → Dp K H v p
  | .non, v, fr, p, e, h => by cases e; cases h.1; exact .non
  | .bl b, v, fr, p, e, h => by cases e; cases h.1; exact .bl b
  | .int i, v, fr, p, e, h => by cases e; cases h.1; exact .int i
  | .str x, v, fr, p, e, h => by cases e; cases h.1; exact .str x
  | .node o .lst xs, v, fr, p, e, h => by
    obtain ⟨a, vs, fq, rfl, ha, ra, _⟩ := h.lst hs
    simp only [toPD, Option.map_eq_some_iff] at e
    obtain ⟨ps, e1, rfl⟩ := e
    exact .lst (.of ha) (dpL_of hs xs vs fq ps e1 ra)
  | .node o .tup xs, v, fr, p, e, h => by
    obtain ⟨a, vs, fq, rfl, ha, ra, _⟩ := h.tup hs
    simp only [toPD, Option.map_eq_some_iff] at e
    obtain ⟨ps, e1, rfl⟩ := e
    exact .tup (.of ha) (dpL_of hs xs vs fq ps e1 ra)
  | .node _ (.dic _) _, v, fr, p, e, h => by cases e
  | .node _ (.dit _) _, v, fr, p, e, h => by cases e
  | .node _ (.ins _ _) _, v, fr, p, e, h => by cases e
  | .node _ (.exd _) _, v, fr, p, e, h => by cases e
  | .ob _, v, fr, p, e, h => by cases e
  | .ty _, v, fr, p, e, h => by cases e
  | .scr _, v, fr, p, e, h => by cases e
  | .tscr _ _, v, fr, p, e, h => by cases e
  | .lam _ _ _, v, fr, p, e, h => by cases e
theorem dpL_of (hs : ∀ a u, F a = some u → Has H a u) : ∀ (ds : List D) (vs : List V) (fr : List Addr) (ps : List PyData), toPDL ds = some ps → RepL K F H ds vs fr → DpAll K H vs ps
  | [], vs, fr, ps, e, h => by cases e; cases h.1; exact .nil
  | d :: ds, vs, fr, ps, e, h => by
    simp only [RepL] at h
    obtain ⟨v, ws, f1, f2, rfl, rfl, h1, h2, h3⟩ := h
    simp only [toPDL, Option.bind_eq_some_iff, Option.map_eq_some_iff] at e
    obtain ⟨p, e1, ps', e2, rfl⟩ := e
    exact .cons (dp_of hs d v f1 p e1 h2) (dpL_of hs ds ws f2 ps' e2 h3)
end
def eqD (x y : D) : Option Bool := (toPD x).bind fun p => (toPD y).bind fun q => if SeqAt.shaped p = true ∧ SeqAt.shaped q = true then some (PyData.eqv p q) else none
def oEq : List D → Option D
  | [x, y] => (eqD x y).map .bl
  | _ => none
def oNe : List D → Option D
  | [x, y] => (eqD x y).map fun b => .bl (!b)
  | _ => none
theorem eqD_some {x y : D} {b : Bool} (h : eqD x y = some b) : ∃ p q, toPD x = some p ∧ toPD y = some q ∧ SeqAt.shaped p = true ∧ SeqAt.shaped q = true ∧ b = PyData.eqv p q := by
  unfold eqD at h
  simp only [Option.bind_eq_some_iff] at h
  obtain ⟨p, h1, q, h2, h3⟩ := h
  split at h3
  · rename_i z
    cases h3
    exact ⟨p, q, h1, h2, z.1, z.2, rfl⟩
  · cases h3
theorem ok_eq : OpOk K (l2 (rEqD K)) oEq := by
  intro F H ds vs frs d Q hs rep e q
  unfold oEq at e
  split at e
  · simp only [Option.map_eq_some_iff] at e
    obtain ⟨b, e1, rfl⟩ := e
    obtain ⟨p, p', e2, e3, s1, s2, rfl⟩ := eqD_some e1
    obtain ⟨v, w, f, g1, rfl, rfl, h1, h2⟩ := rep.two
    exact ⟨p, p', dp_of hs _ _ _ _ e2 h1, dp_of hs _ _ _ _ e3 h2, s1, s2, same_q hs (.plain rfl) q⟩
  · cases e
theorem ok_ne : OpOk K (l2 (rNeD K)) oNe := by
  intro F H ds vs frs d Q hs rep e q
  unfold oNe at e
  split at e
  · simp only [Option.map_eq_some_iff] at e
    obtain ⟨b, e1, rfl⟩ := e
    obtain ⟨p, p', e2, e3, s1, s2, rfl⟩ := eqD_some e1
    obtain ⟨v, w, f, g1, rfl, rfl, h1, h2⟩ := rep.two
    exact ⟨p, p', dp_of hs _ _ _ _ e2 h1, dp_of hs _ _ _ _ e3 h2, s1, s2, same_q hs (.plain rfl) q⟩
  · cases e
def isNonD : D → Bool
  | .non => true
  | _ => false
theorem Rep.isNon {d : D} {v : V} {fr : List Addr} (h : Rep K F H d v fr) (hs : ∀ a u, F a = some u → Has H a u) : decide (v = .non) = isNonD d := by
  cases d with
  | non => cases h.1; rfl
  | bl b => cases h.1; rfl
  | int i => cases h.1; rfl
  | str x => cases h.1; rfl
  | ob a => cases h.1; rfl
  | ty n => cases h.1; rfl
  | scr n => obtain ⟨a, rfl, _⟩ := h; rfl
  | tscr n T => obtain ⟨⟨a, rfl, _⟩, _⟩ := h; rfl
  | lam f c q => cases h.1; rfl
  | node o s xs =>
    obtain ⟨a, u, vs, fq, rfl, _⟩ := h.node hs
    rfl
def oIsN : List D → Option D
  | [x, .non] => some (.bl (isNonD x))
  | _ => none
def oNotN : List D → Option D
  | [x, .non] => some (.bl (!isNonD x))
  | _ => none
theorem ok_isN : OpOk K (l2 fun x y H Q => y = .non ∧ Q (.bl (decide (x = .non))) H) oIsN := by
  intro F H ds vs frs d Q hs rep e q
  unfold oIsN at e
  split at e
  · cases e
    obtain ⟨v, w, f, g1, rfl, rfl, h1, rfl, rfl⟩ := rep.two
    exact ⟨rfl, by rw [h1.isNon hs]; exact same_q hs (.plain rfl) q⟩
  · cases e
theorem ok_notN : OpOk K (l2 fun x y H Q => y = .non ∧ Q (.bl (!decide (x = .non))) H) oNotN := by
  intro F H ds vs frs d Q hs rep e q
  unfold oNotN at e
  split at e
  · cases e
    obtain ⟨v, w, f, g1, rfl, rfl, h1, rfl, rfl⟩ := rep.two
    exact ⟨rfl, by rw [h1.isNon hs]; exact same_q hs (.plain rfl) q⟩
  · cases e
def scV : D → Option V
  | .non => some .non
  | .bl b => some (.bl b)
  | .int i => some (.int i)
  | .str x => some (.str x)
  | _ => none
def scVL : List D → Option (List V)
  | [] => some []
  | d :: ds => (scV d).bind fun v => (scVL ds).map (v :: ·)
theorem scV_rep {d : D} {v w : V} {fr : List Addr} (e : scV d = some v) (h : Rep K F H d w fr) : w = v ∧ flatV v = true := by
  cases d <;> simp only [scV, Option.some.injEq, reduceCtorEq] at e <;> subst e <;> exact ⟨h.1, rfl⟩
theorem scVL_rep : ∀ {ds : List D} {vs ws : List V} {fr : List Addr}, scVL ds = some vs → RepL K F H ds ws fr → ws = vs ∧ vs.all flatV = true
  | [], vs, ws, fr, e, h => by cases e; exact ⟨h.1, rfl⟩
  | d :: ds, vs, ws, fr, e, h => by
    simp only [RepL] at h
    obtain ⟨v, us, f1, f2, rfl, rfl, h1, h2, h3⟩ := h
    simp only [scVL, Option.bind_eq_some_iff, Option.map_eq_some_iff] at e
    obtain ⟨v', e1, vs', e2, rfl⟩ := e
    obtain ⟨rfl, z1⟩ := scV_rep e1 h2
    obtain ⟨rfl, z2⟩ := scVL_rep e2 h3
    exact ⟨rfl, by rw [List.all_cons, z1, z2]; rfl⟩
def inD (x : D) (ys : List D) : Option Bool := (scV x).bind fun v => (scVL ys).map fun vs => inV v vs
def oIn : List D → Option D
  | [x, .node _ .lst ys] => (inD x ys).map .bl
  | [x, .node _ .tup ys] => (inD x ys).map .bl
  | _ => none
def oNotIn : List D → Option D
  | [x, .node _ .lst ys] => (inD x ys).map fun b => .bl (!b)
  | [x, .node _ .tup ys] => (inD x ys).map fun b => .bl (!b)
  | _ => none
theorem inD_some {x : D} {ys : List D} {b : Bool} (e : inD x ys = some b) : ∃ v vs, scV x = some v ∧ scVL ys = some vs ∧ b = inV v vs := by
  unfold inD at e
  simp only [Option.bind_eq_some_iff, Option.map_eq_some_iff] at e
  obtain ⟨v, e1, vs, e2, rfl⟩ := e
  exact ⟨v, vs, e1, e2, rfl⟩
theorem ok_in : OpOk K (l2 (rIn K false)) oIn := by
  intro F H ds vs frs d Q hs rep e q
  unfold oIn at e
  split at e
  · simp only [Option.map_eq_some_iff] at e
    obtain ⟨b, e1, rfl⟩ := e
    obtain ⟨v, us, e2, e3, rfl⟩ := inD_some e1
    obtain ⟨v', w, f, g1, rfl, rfl, h1, h2⟩ := rep.two
    obtain ⟨a, va, fa, rfl, ha, ra, _⟩ := h2.lst hs
    obtain ⟨rfl, z1⟩ := scV_rep e2 h1
    obtain ⟨rfl, z2⟩ := scVL_rep e3 ra
    exact ⟨a, _, rfl, .inl (.of ha), z1, z2, same_q hs (.plain rfl) q⟩
  · simp only [Option.map_eq_some_iff] at e
    obtain ⟨b, e1, rfl⟩ := e
    obtain ⟨v, us, e2, e3, rfl⟩ := inD_some e1
    obtain ⟨v', w, f, g1, rfl, rfl, h1, h2⟩ := rep.two
    obtain ⟨a, va, fa, rfl, ha, ra, _⟩ := h2.tup hs
    obtain ⟨rfl, z1⟩ := scV_rep e2 h1
    obtain ⟨rfl, z2⟩ := scVL_rep e3 ra
    exact ⟨a, _, rfl, .inr (.of ha), z1, z2, same_q hs (.plain rfl) q⟩
  · cases e
theorem ok_notIn : OpOk K (l2 (rIn K true)) oNotIn := by
  intro F H ds vs frs d Q hs rep e q
  unfold oNotIn at e
  split at e
  · simp only [Option.map_eq_some_iff] at e
    obtain ⟨b, e1, rfl⟩ := e
    obtain ⟨v, us, e2, e3, rfl⟩ := inD_some e1
    obtain ⟨v', w, f, g1, rfl, rfl, h1, h2⟩ := rep.two
    obtain ⟨a, va, fa, rfl, ha, ra, _⟩ := h2.lst hs
    obtain ⟨rfl, z1⟩ := scV_rep e2 h1
    obtain ⟨rfl, z2⟩ := scVL_rep e3 ra
    exact ⟨a, _, rfl, .inl (.of ha), z1, z2, same_q hs (.plain rfl) q⟩
  · simp only [Option.map_eq_some_iff] at e
    obtain ⟨b, e1, rfl⟩ := e
    obtain ⟨v, us, e2, e3, rfl⟩ := inD_some e1
    obtain ⟨v', w, f, g1, rfl, rfl, h1, h2⟩ := rep.two
    obtain ⟨a, va, fa, rfl, ha, ra, _⟩ := h2.tup hs
    obtain ⟨rfl, z1⟩ := scV_rep e2 h1
    obtain ⟨rfl, z2⟩ := scVL_rep e3 ra
    exact ⟨a, _, rfl, .inr (.of ha), z1, z2, same_q hs (.plain rfl) q⟩
  · cases e
def oInS : List D → Option D
  | [.str c, .str z] => match c.cps.toList with
    | [n] => some (.bl (decide (n ∈ z.cps.toList)))
    | _ => none
  | _ => none
theorem str_one {c : Str} {n : Nat} (h : c.cps.toList = [n]) : c = ⟨#[n]⟩ := by
  obtain ⟨a⟩ := c
  have e : a = #[n] := by
    apply Array.ext'
    simpa using h
  rw [e]
theorem ok_inS : OpOk K (l2 fun x y H Q => ∃ (c : Nat) (z : Str), x = .str ⟨#[c]⟩ ∧ y = .str z ∧ Q (.bl (decide (c ∈ z.cps.toList))) H) oInS := by
  intro F H ds vs frs d Q hs rep e q
  unfold oInS at e
  split at e
  · split at e
    · rename_i n hn
      cases e
      obtain ⟨v, w, f, g1, rfl, rfl, ⟨rfl, rfl⟩, ⟨rfl, rfl⟩⟩ := rep.two
      exact ⟨n, _, by rw [str_one hn], rfl, same_q hs (.plain rfl) q⟩
    · cases e
  · cases e
def lenD : D → Option Nat
  | .str x => if x.length ≤ sizeLine then some x.length else none
  | .node _ .lst xs => some xs.length
  | .node _ .tup xs => some xs.length
  | .node _ (.dic _) xs => some xs.length
  | .node _ (.dit _) xs => some xs.length
  | _ => none
def oLen : List D → Option D
  | [x] => (lenD x).map fun n => .int n
  | _ => none
end
end DL
namespace DL
open PySem PySem.Spec L2
section
variable {X : Cx} {W : WX} {ε ε1 ε2 ε3 : Bool} {k k1 k2 k3 : Kd} {ks : List Kd} {e a b c : Expr} {es : List Expr} {f fa fb fc : FE} {ff : FA} {p pos : Pos}
theorem esim_own {K : PySem.W.Frag} {t : TE} (h : ESim K W ε .frz t f) : ESim K W ε .own t f := fun Z F H env σ fp Q r hq => by
  refine h Z F H env σ fp Q r (hq.imp fun d e1 h1 F' H' fp' v fr ev r' rep ko => h1 F' H' fp' v fr ev r' rep ?_)
  have e : fr = [] := ko
  subst e
  exact fun a ha => by cases ha
theorem de_own (h : DE X W ε .frz e f) : DE X W ε .own e f := let ⟨_, q, s⟩ := h.ex; ⟨_, q, esim_own s⟩
theorem Post.mono {K : PySem.W.Frag} {α : Type} {Z : Zst} {F H : Hp} {env : Evn} {σ : L2.St} {fp : Fp} {G : α → Evn → Prop} {r : Rs α} (h : Post K W ε1 Z F H env σ fp G r) (h1 : ε2 = true → ε1 = true) (h2 : ε1 = false → ε2 = false) : Post K W ε2 Z F H env σ fp G r := by
  cases r with
  | ok b e' => exact h
  | exc c x e' => exact fun F' H' fp' dx e2 r2 h3 => h F' H' fp' dx (e2.mono h1 h2) r2 h3
  | stuck => exact h
theorem de_callB {x : Str} {id : String} {r : List V → Hp → VK → Prop} {g : List D → Option D} (hc : CallR X (.builtin id) r) (ho : OpOk X.K r g) (hm : X.mg x = none) (ha : DA X W ε ks (e :: es) ff) (hg : Gl X x := by rfl)
    (hv : bootBuiltins x = some (.builtin id) := by decide +kernel) (hn : x ≠ "__name__" := by decide) (hdb : (x == ("__debug__" : Str)) = false := by decide)
    (he : starEach (e :: es) X.env = (false, eval e X.env) :: starEach es X.env := by rfl) (hpl : (backTo pos (starEach es X.env)).any (·.1) = false := by rfl) : DE X W ε .own (.Call (.Name x p) (e :: es) [] pos) (fOp g ff) := by
  obtain ⟨t, q, s⟩ := ha.ex
  exact ⟨_, pe_callB hc hg hm hv q hn hdb he hpl, esim_op s ho fun σ H Q h => h⟩
theorem de_callTy {x : Str} {T : String} {r : List V → Hp → VK → Prop} {g : List D → Option D} (hc : CallR X (.type T) r) (ho : OpOk X.K r g) (hm : X.mg x = none) (ha : DA X W ε ks (e :: es) ff) (hg : Gl X x := by rfl)
    (hv : bootBuiltins x = some (.type T) := by decide +kernel) (hn : x ≠ "__name__" := by decide) (hdb : (x == ("__debug__" : Str)) = false := by decide)
    (he : starEach (e :: es) X.env = (false, eval e X.env) :: starEach es X.env := by rfl) (hpl : (backTo pos (starEach es X.env)).any (·.1) = false := by rfl) : DE X W ε .own (.Call (.Name x p) (e :: es) [] pos) (fOp g ff) := by
  obtain ⟨t, q, s⟩ := ha.ex
  exact ⟨_, pe_callTy hc hg hm hv q hn hdb he hpl, esim_op s ho fun σ H Q h => h⟩
theorem de_gint {x : Str} {i : Int} (hm : ∃ t, X.mg x = some (.int i t)) (hg : Gl X x := by rfl) (hdb : (x == ("__debug__" : Str)) = false := by decide) : DE X W false .frz (.Name x pos) (fC (.int i)) := by
  obtain ⟨t, h⟩ := hm
  exact ⟨_, pe_glob (v := .int i) hg h ⟨t, rfl⟩ hdb, esim_c rfl⟩
theorem de_gstr {x z : Str} (hm : ∃ t, X.mg x = some (.str z t)) (hg : Gl X x := by rfl) (hdb : (x == ("__debug__" : Str)) = false := by decide) : DE X W false .frz (.Name x pos) (fC (.str z)) := by
  obtain ⟨t, h⟩ := hm
  exact ⟨_, pe_glob (v := .str z) hg h ⟨t, rfl⟩ hdb, esim_c rfl⟩
def AccOk (K : PySem.W.Frag) (r : List V → Hp → VK → Prop) (g : List D → Option D) : Prop :=
  ∀ (F H : Hp) (ds : List D) (vs : List V) (fr0 : List Addr) (frs : List (List Addr)) (d : D) (Q : VK), (∀ a u, F a = some u → Has H a u) → RepA K F H ds vs (fr0 :: frs) → g ds = some d →
    (∀ v fr, Rep K F H d v fr → (∀ a ∈ fr, a ∈ fr0) → Q v H) → r vs H Q
theorem KOk.sub {H F' : Hp} {env env' : Evn} {fp fp' : Fp} {fr fr' : List Addr} (h : KOk k H env fp F' env' fp' fr) (s : ∀ a ∈ fr', a ∈ fr) : KOk k H env fp F' env' fp' fr' := by
  cases k with
  | own => exact fun a ha => h a (s a ha)
  | frz =>
    have e : fr = [] := h
    subst e
    cases fr' with
    | nil => rfl
    | cons a r => exact absurd (s a (List.mem_cons_self ..)) (by simp)
  | bor j => exact ⟨h.1, fun a ha => h.2 a (s a ha)⟩
theorem esim_acc {K : PySem.W.Frag} {ta : TA} {t' : TE} {r : List V → Hp → VK → Prop} {g : List D → Option D} (ha : ASim K W ε (k :: ks) ta ff) (ho : AccOk K r g) (ht : ∀ σ H Q, ta σ H (fun vs H' => r vs H' Q) → t' σ H Q) : ESim K W ε k t' (fOp g ff) := by
  intro Z F H env σ fp Q r0 hq
  refine ht σ H Q (ha Z F H env σ fp _ r0 (Post.bind hq id id fun ds e1 h1 F1 H1 fp1 vs frs ev r1 rep ko => ?_))
  cases q : g ds with
  | none => rw [q] at h1; exact h1.elim
  | some d =>
    rw [q] at h1
    cases frs with
    | nil => exact ko.elim
    | cons fr0 frs => exact ho F1 H1 ds vs fr0 frs d Q r1.sub rep q fun v fr rp sb => h1 F1 H1 fp1 v fr ev r1 rp (ko.1.sub sb)
def look {κ α : Type} [DecidableEq κ] : List κ → List α → κ → Option α
  | k :: ks, x :: xs, k' => if k = k' then some x else look ks xs k'
  | _, _, _ => none
theorem RepL.look {K : PySem.W.Frag} {F H : Hp} {κ : Type} [DecidableEq κ] {k : κ} : ∀ {ks : List κ} {ds : List D} {vs : List V} {fp : List Addr} {d : D}, RepL K F H ds vs fp → DL.look ks ds k = some d → ∃ v fq, DL.look ks vs k = some v ∧ Rep K F H d v fq ∧ ∀ a ∈ fq, a ∈ fp
  | [], ds, vs, fp, d, h, e => by simp [DL.look] at e
  | _ :: _, [], vs, fp, d, h, e => by simp [DL.look] at e
  | k' :: ks, d' :: ds, vs, fp, d, h, e => by
    simp only [RepL] at h
    obtain ⟨v, ws, f1, f2, rfl, rfl, h1, h2, h3⟩ := h
    unfold DL.look at e ⊢
    by_cases z : k' = k
    · rw [if_pos z] at e ⊢
      cases e
      exact ⟨v, f1, rfl, h2, fun a ha => List.mem_append_left _ ha⟩
    · rw [if_neg z] at e ⊢
      obtain ⟨v', fq, e1, e2, e3⟩ := RepL.look h3 e
      exact ⟨v', fq, e1, e2, fun a ha => List.mem_append_right _ (e3 a ha)⟩
theorem look_lookup {f : Str} : ∀ {fs : List Str} {vs : List V}, (fs.zip vs).lookup f = look fs vs f
  | [], vs => rfl
  | _ :: _, [] => by simp [look]
  | g :: fs, v :: vs => by
    unfold look
    rw [List.zip_cons_cons, List.lookup_cons]
    by_cases h : g = f
    · subst h; simp
    · rw [if_neg h]
      have h' : (f == g) = false := by simpa using fun z => h z.symm
      rw [h']
      exact look_lookup
theorem look_valV {κ : Type} [DecidableEq κ] {k : κ} : ∀ {ks : List κ} {vs : List V}, valV (ks.zip vs) k = look ks vs k
  | [], vs => rfl
  | _ :: _, [] => by simp [look, valV]
  | g :: fs, v :: vs => by
    unfold look
    rw [List.zip_cons_cons]
    unfold valV
    rw [List.find?_cons]
    by_cases h : g = k
    · subst h; simp
    · rw [if_neg h]
      have h' : decide (g = k) = false := by simpa using h
      simp only [h']
      exact look_valV
def oFld (cl f : Str) : List D → Option D
  | [.node _ (.ins c fs) xs] => if c = cl then look fs xs f else none
  | _ => none
def rFld (K : PySem.W.Frag) (f : Str) : List V → Hp → VK → Prop := l1 fun x H1 Q => ∃ a C dx fs v, x = .ref a ∧ H1 a = some (.ins C dx fs) ∧ Cls K C ∧ NoAttr K C f ∧ fs.lookup f = some v ∧ Q v H1
theorem ok_fld {K : PySem.W.Frag} {cl f : Str} (hc : (He.Fa.cls cl).ok K = true) (hn : (He.Fa.noat cl f).ok K = true) : AccOk K (rFld K f) (oFld cl f) := by
  intro F H ds vs fr0 frs d Q hs rep e q
  unfold oFld at e
  split at e
  · rename_i o c fs xs
    split at e
    · rename_i z
      subst z
      obtain ⟨v, fz, rfl, hf, h1⟩ := rep.one
      cases hf
      obtain ⟨p, u, us, fq, rfl, h2, h3, h4, h5⟩ := h1.node hs
      obtain ⟨hl, dx, rfl⟩ := h3
      obtain ⟨v', fq', e1, e2, e3⟩ := h4.look e
      exact ⟨p, _, dx, _, v', rfl, h2.ex rfl, He.cls_ok hc, He.noat_ok hn, by rw [look_lookup]; exact e1, q v' fq' e2 fun x hx => h5 x (e3 x hx)⟩
    · cases e
  · cases e
theorem de_fld (cl : Str) {f : Str} (hc : (He.Fa.cls cl).ok X.K = true) (hn : (He.Fa.noat cl f).ok X.K = true) (ha : DE X W ε k a fa) (hb : attributeBase a f X.env (eval a X.env) = eval a X.env := by rfl) :
    DE X W (ε || false) k (.Attribute a f pos) (fOp (oFld cl f) (aCons fa aNil)) := by
  obtain ⟨t, p1, s1⟩ := ha.ex
  exact ⟨_, pe_fld p1 hb, esim_acc (asim_cons s1 asim_nil) (ok_fld hc hn) fun σ H Q h => h⟩
def oIx : List D → Option D
  | [.node _ .lst xs, .int i] => atI xs i
  | [.node _ .tup xs, .int i] => atI xs i
  | [.str z, .int i] => if z.length ≤ sizeLine then (atI z.cps.toList i).map fun c => .str ⟨#[c]⟩ else none
  | _ => none
theorem RepL.atI {K : PySem.W.Frag} {F H : Hp} {ds : List D} {vs : List V} {fp : List Addr} {i : Int} {d : D} (h : RepL K F H ds vs fp) (e : L2.atI ds i = some d) : ∃ v fq, L2.atI vs i = some v ∧ Rep K F H d v fq ∧ ∀ a ∈ fq, a ∈ fp := by
  unfold L2.atI at e ⊢
  rw [Option.bind_eq_some_iff] at e
  obtain ⟨j, e1, e2⟩ := e
  obtain ⟨v, fq, h1, h2, h3⟩ := h.get _ _ _ j d e2
  exact ⟨v, fq, by rw [h.len, e1]; exact h1, h2, h3⟩
theorem ok_ix {K : PySem.W.Frag} : AccOk K (l2 (rIx K)) oIx := by
  intro F H ds vs fr0 frs d Q hs rep e q
  unfold oIx at e
  split at e
  · obtain ⟨v, w, f, g1, rfl, hf, h1, rfl, rfl⟩ := rep.two
    cases hf
    obtain ⟨p, us, fq, rfl, hp, rl, sb⟩ := h1.lst hs
    obtain ⟨v', fq', e1, e2, e3⟩ := rl.atI e
    exact .inl ⟨p, us, _, v', rfl, rfl, .of hp, e1, q v' fq' e2 fun x hx => sb x (e3 x hx)⟩
  · obtain ⟨v, w, f, g1, rfl, hf, h1, rfl, rfl⟩ := rep.two
    cases hf
    obtain ⟨p, us, fq, rfl, hp, rl, sb⟩ := h1.tup hs
    obtain ⟨v', fq', e1, e2, e3⟩ := rl.atI e
    exact .inr (.inl ⟨p, us, _, v', rfl, rfl, .of hp, e1, q v' fq' e2 fun x hx => sb x (e3 x hx)⟩)
  · split at e
    · rename_i hz
      obtain ⟨v, w, f, g1, rfl, hf, ⟨rfl, rfl⟩, rfl, rfl⟩ := rep.two
      rw [Option.map_eq_some_iff] at e
      obtain ⟨c, e1, rfl⟩ := e
      exact .inr (.inr ⟨_, _, c, rfl, rfl, hz, e1, q _ [] (.plain rfl) fun x hx => by cases hx⟩)
    · cases e
  · cases e
def keyD : D → Option Key
  | .int i => some (.inl i)
  | .str x => some (.inr x)
  | _ => none
def keysD : List D → Option (List Key)
  | [] => some []
  | d :: ds => (keyD d).bind fun k => (keysD ds).map (k :: ·)
theorem keyD_rep {K : PySem.W.Frag} {F H : Hp} {d : D} {v : V} {fr : List Addr} {k : Key} (e : keyD d = some k) (h : Rep K F H d v fr) : v = kV k := by
  cases d <;> simp only [keyD, Option.some.injEq, reduceCtorEq] at e <;> subst e <;> exact h.1
theorem keysD_rep {K : PySem.W.Frag} {F H : Hp} : ∀ {ds : List D} {vs : List V} {fr : List Addr} {ks : List Key}, keysD ds = some ks → RepL K F H ds vs fr → vs = ks.map kV
  | [], vs, fr, ks, e, h => by cases e; exact h.1
  | d :: ds, vs, fr, ks, e, h => by
    simp only [RepL] at h
    obtain ⟨v, ws, f1, f2, rfl, rfl, h1, h2, h3⟩ := h
    simp only [keysD, Option.bind_eq_some_iff, Option.map_eq_some_iff] at e
    obtain ⟨k, e1, ks', e2, rfl⟩ := e
    rw [keyD_rep e1 h2, keysD_rep e2 h3]
    rfl
def dget : D → D → Option (Option D)
  | .node _ (.dic ks) xs, k => (keyD k).map (look ks xs)
  | .node _ (.dit ks) xs, .node _ .tup ys => (keysD ys).map (look ks xs)
  | _, _ => none
theorem look_none {κ α β : Type} [DecidableEq κ] {k : κ} : ∀ {ks : List κ} {xs : List α} {ys : List β}, xs.length = ys.length → look ks xs k = none → look ks ys k = none
  | [], xs, ys, _, _ => by simp [look]
  | _ :: _, [], [], _, _ => by simp [look]
  | _ :: _, _ :: _, [], h, _ => by simp at h
  | _ :: _, [], _ :: _, h, _ => by simp at h
  | g :: ks, x :: xs, y :: ys, h, e => by
    unfold look at e ⊢
    by_cases z : g = k
    · rw [if_pos z] at e; cases e
    · rw [if_neg z] at e ⊢
      exact look_none (by simpa using h) e
theorem dget_rep {K : PySem.W.Frag} {F H : Hp} {x y : D} {v w : V} {f g : List Addr} {o : Option D} (hs : ∀ a u, F a = some u → Has H a u) (e : dget x y = some o) (h1 : Rep K F H x v f) (h2 : Rep K F H y w g) :
    ∃ a r, v = .ref a ∧ DGet H a w r ∧ (o = none → r = none) ∧ ∀ d, o = some d → ∃ u fq, r = some u ∧ Rep K F H d u fq ∧ ∀ z ∈ fq, z ∈ f := by
  unfold dget at e
  split at e
  · rw [Option.map_eq_some_iff] at e
    obtain ⟨k, e1, rfl⟩ := e
    obtain ⟨a, u, vs, fq, rfl, h3, h4, h5, h6⟩ := h1.node hs
    obtain ⟨hl, rfl⟩ := h4
    refine ⟨a, _, rfl, .inl ⟨_, k, h3.rd, keyD_rep e1 h2, rfl⟩, fun z => ?_, fun d z => ?_⟩
    · rw [look_valV]
      exact look_none h5.len.symm z
    · obtain ⟨u, fq', e2, e3, e4⟩ := h5.look z
      exact ⟨u, fq', by rw [look_valV]; exact e2, e3, fun q hq => h6 q (e4 q hq)⟩
  · rw [Option.map_eq_some_iff] at e
    obtain ⟨k, e1, rfl⟩ := e
    obtain ⟨a, u, vs, fq, rfl, h3, h4, h5, h6⟩ := h1.node hs
    obtain ⟨hl, rfl⟩ := h4
    obtain ⟨b, ws, fq2, rfl, hb, rb, _⟩ := h2.tup hs
    refine ⟨a, _, rfl, .inr ⟨_, k, b, h3.rd, rfl, by rw [hb, keysD_rep e1 rb], rfl⟩, fun z => ?_, fun d z => ?_⟩
    · rw [look_valV]
      exact look_none h5.len.symm z
    · obtain ⟨u, fq', e2, e3, e4⟩ := h5.look z
      exact ⟨u, fq', by rw [look_valV]; exact e2, e3, fun q hq => h6 q (e4 q hq)⟩
  · cases e
def oGet : List D → Option D
  | [x, y] => (dget x y).bind id
  | _ => none
theorem ok_get {K : PySem.W.Frag} : AccOk K (l2 fun x y H Q => ∃ a v, x = .ref a ∧ DGet H a y (some v) ∧ Q v H) oGet := by
  intro F H ds vs fr0 frs d Q hs rep e q
  unfold oGet at e
  split at e
  · rw [Option.bind_eq_some_iff] at e
    obtain ⟨o, e1, e2⟩ := e
    obtain ⟨v, w, f, g1, rfl, hf, h1, h2⟩ := rep.two
    cases hf
    obtain ⟨a, r, rfl, h3, _, h4⟩ := dget_rep hs e1 h1 h2
    obtain ⟨u, fq, rfl, h5, h6⟩ := h4 d e2
    exact ⟨a, u, rfl, h3, q u fq h5 h6⟩
  · cases e
def oDin : List D → Option D
  | [y, x] => (dget x y).map fun o => .bl o.isSome
  | _ => none
def oDnot : List D → Option D
  | [y, x] => (dget x y).map fun o => .bl (!o.isSome)
  | _ => none
theorem dget_is {K : PySem.W.Frag} {F H : Hp} {x y : D} {v w : V} {f g : List Addr} {o : Option D} (hs : ∀ a u, F a = some u → Has H a u) (e : dget x y = some o) (h1 : Rep K F H x v f) (h2 : Rep K F H y w g) : ∃ a r, v = .ref a ∧ DGet H a w r ∧ r.isSome = o.isSome := by
  obtain ⟨a, r, rfl, h3, h4, h5⟩ := dget_rep hs e h1 h2
  refine ⟨a, r, rfl, h3, ?_⟩
  cases o with
  | none => rw [h4 rfl]; rfl
  | some d =>
    obtain ⟨u, fq, rfl, _⟩ := h5 d rfl
    rfl
theorem ok_din {K : PySem.W.Frag} : OpOk K (l2 fun y x H Q => ∃ a o, x = .ref a ∧ DGet H a y o ∧ Q (.bl o.isSome) H) oDin := by
  intro F H ds vs frs d Q hs rep e q
  unfold oDin at e
  split at e
  · rw [Option.map_eq_some_iff] at e
    obtain ⟨o, e1, rfl⟩ := e
    obtain ⟨v, w, f, g1, rfl, rfl, h1, h2⟩ := rep.two
    obtain ⟨a, r, rfl, h3, h4⟩ := dget_is hs e1 h2 h1
    exact ⟨a, r, rfl, h3, by rw [h4]; exact same_q hs (.plain rfl) q⟩
  · cases e
theorem ok_dnot {K : PySem.W.Frag} : OpOk K (l2 fun y x H Q => ∃ a o, x = .ref a ∧ DGet H a y o ∧ Q (.bl (!o.isSome)) H) oDnot := by
  intro F H ds vs frs d Q hs rep e q
  unfold oDnot at e
  split at e
  · rw [Option.map_eq_some_iff] at e
    obtain ⟨o, e1, rfl⟩ := e
    obtain ⟨v, w, f, g1, rfl, rfl, h1, h2⟩ := rep.two
    obtain ⟨a, r, rfl, h3, h4⟩ := dget_is hs e1 h2 h1
    exact ⟨a, r, rfl, h3, by rw [h4]; exact same_q hs (.plain rfl) q⟩
  · cases e
def Kd.prot : Kd → Bool
  | .bor _ => false
  | _ => true
theorem RepA.flat {K : PySem.W.Frag} {F H H0 : Hp} {env env' : Evn} {fp fp' : Fp} : ∀ {ks : List Kd} {ds : List D} {vs : List V} {frs : List (List Addr)}, RepA K F H ds vs frs → KOks H0 env fp F env' fp' ks frs → ks.all Kd.prot = true →
    RepL K F H ds vs frs.flatten ∧ ∀ a ∈ frs.flatten, (H0 a = none ∨ OwnA env fp a) ∧ ¬ OwnA env' fp' a ∧ F a = none
  | ks, [], vs, frs, h, ko, _ => by
    obtain ⟨rfl, rfl⟩ := h.inv0
    exact ⟨⟨rfl, rfl⟩, fun a ha => by simp at ha⟩
  | [], d :: ds, vs, frs, h, ko, hp => by
    obtain ⟨v, ws, f, fs, rfl, rfl, h1, h2⟩ := h.inv
    exact ko.elim
  | k :: ks, d :: ds, vs, frs, h, ko, hp => by
    obtain ⟨v, ws, f, fs, rfl, rfl, h1, h2⟩ := h.inv
    obtain ⟨k1, k2, k3⟩ := ko
    rw [List.all_cons, Bool.and_eq_true] at hp
    obtain ⟨r1, r2⟩ := RepA.flat h2 k3 hp.2
    rw [List.flatten_cons]
    have own : ∀ a ∈ f, (H0 a = none ∨ OwnA env fp a) ∧ ¬ OwnA env' fp' a ∧ F a = none := by
      cases k with
      | own => exact k1
      | frz =>
        have e : f = [] := k1
        rw [e]
        exact fun a ha => by cases ha
      | bor j => exact absurd hp.1 (by simp [Kd.prot])
    refine ⟨RepL.mk (fun a ha hm => ?_) h1 r1, fun a ha => ?_⟩
    · cases k with
      | own =>
        obtain ⟨g, hg, hag⟩ := List.mem_flatten.mp hm
        obtain ⟨i, hi, eg⟩ := List.mem_iff_getElem.mp hg
        have eg' : fs[i]? = some g := by rw [List.getElem?_eq_getElem hi, eg]
        have key : ∀ {ks : List Kd} {fs : List (List Addr)} {i : Nat} {g : List Addr}, KOks H0 env fp F env' fp' ks fs → ks.all Kd.prot = true → fs[i]? = some g → a ∈ g → ks[i]? = some Kd.own := by
          intro ks
          induction ks with
          | nil =>
            intro fs i g h _ e _
            cases fs with
            | nil => simp at e
            | cons x y => exact h.elim
          | cons k ks ih =>
            intro fs i g h hp e ha
            cases fs with
            | nil => exact h.elim
            | cons x y =>
              rw [List.all_cons, Bool.and_eq_true] at hp
              cases i with
              | zero =>
                simp at e
                subst e
                cases k with
                | own => rfl
                | frz =>
                  have e2 : x = [] := h.1
                  rw [e2] at ha
                  cases ha
                | bor j => exact absurd hp.1 (by simp [Kd.prot])
              | succ i =>
                have := ih (i := i) h.2.2 hp.2 (by simpa using e) ha
                simpa using this
        exact k2 rfl i g (key k3 hp.2 eg' hag) eg' a ha hag
      | frz =>
        have e : f = [] := k1
        rw [e] at ha
        cases ha
      | bor j => exact absurd hp.1 (by simp [Kd.prot])
    · rcases List.mem_append.mp ha with ha | ha
      · exact own a ha
      · exact r2 a ha
def oTup (ds : List D) : Option D := if ds.length ≤ sizeLine then some (.node (!frzL ds) .tup ds) else none
def oLst (ds : List D) : Option D := if ds.length ≤ sizeLine then some (.node true .lst ds) else none
theorem esim_disp {K : PySem.W.Frag} {ta : TA} {t' : TE} {g : List D → Option D} {o : List V → HO} {sh : Sh} {fl : List D → Bool} (ha : ASim K W ε ks ta ff) (hp : ks.all Kd.prot = true) (hg : ∀ ds, g ds = if ds.length ≤ sizeLine then some (.node (fl ds) sh ds) else none)
    (hn : ∀ vs : List V, ∀ n, vs.length = n → IsN K sh vs (o vs)) (hfl : ∀ ds, fl ds = false → frzL ds = true) (htp : ∀ ds, fl ds = true → tupOk sh ds) (ht : ∀ σ H Q, ta σ H (fun xs H1 => xs.length ≤ sizeLine ∧ ∀ p, H1 p = none → Q (.ref p) (upd H1 p (o xs))) → t' σ H Q) : ESim K W ε .own t' (fOp g ff) := by
  intro Z F H env σ fp Q r0 hq
  refine ht σ H Q (ha Z F H env σ fp _ r0 (Post.bind hq id id fun ds e1 h1 F1 H1 fp1 vs frs ev r1 rep ko => ?_))
  rw [hg ds] at h1
  by_cases hl : ds.length ≤ sizeLine
  · rw [if_pos hl] at h1
    obtain ⟨rl, own⟩ := rep.flat ko hp
    refine ⟨by rw [rl.len]; exact hl, fun p n => ?_⟩
    cases hz : fl ds with
    | true =>
      rw [hz] at h1
      have gr := Grow.upd (o := o vs) r1.sub n (hn vs _ rfl).nfz
      have ev2 : Ev ε F H env fp F1 (upd H1 p (o vs)) e1 fp1 := (ev.trans (gr.ev (ε := ε))).mono (by cases ε <;> simp) (by cases ε <;> simp)
      refine h1 F1 _ fp1 (.ref p) (p :: frs.flatten) ev2 (r1.grow gr) ?_ fun a ha => ?_
      · rw [Rep]
        exact ⟨p, o vs, vs, frs.flatten, rfl, rfl, .inl upd_same, hn vs _ rfl, fun z => RepL.dom ds vs _ rl p z n, htp ds hz, rl.grow gr⟩
      · rcases List.mem_cons.mp ha with rfl | ha
        · refine ⟨.inl (ev.nd n), fun z => r1.own_dom z n, ?_⟩
          cases z : F1 a with
          | none => rfl
          | some u => exact absurd n (r1.sub a u z).ne
        · exact own a ha
    | false =>
      rw [hz] at h1
      have gr := Grow.updF (o := o vs) r1.sub n (hn vs _ rfl).nfz
      have ev2 : Ev ε F H env fp (upd F1 p (o vs)) (upd H1 p (o vs)) e1 fp1 := (ev.trans (gr.ev (ε := ε))).mono (by cases ε <;> simp) (by cases ε <;> simp)
      refine h1 _ _ fp1 (.ref p) [] ev2 (r1.grow gr) ?_ fun a ha => by cases ha
      rw [Rep]
      exact ⟨p, o vs, vs, rfl, rfl, upd_same, hn vs _ rfl, (rl.nil0 (hfl ds hz)).grow gr⟩
  · rw [if_neg hl] at h1
    exact h1.elim
theorem de_tup {k' : _} (ha : DA X W ε ks es ff) (hp : ks.all Kd.prot = true := by rfl) : DE X W ε .own (.Tuple es k' pos) (fOp oTup ff) := by
  obtain ⟨t, q, s⟩ := ha.ex
  refine ⟨_, pe_tup q, esim_disp (o := .tup) (sh := .tup) (fl := fun ds => !frzL ds) s hp (fun ds => rfl) (fun vs n _ => rfl) (fun ds h => by simpa using h) (fun ds h _ => by simpa using h) fun σ H Q h => h⟩
theorem de_lst (ha : DA X W ε ks es ff) (hp : ks.all Kd.prot = true := by rfl) : DE X W ε .own (.List es pos) (fOp oLst ff) := by
  obtain ⟨t, q, s⟩ := ha.ex
  refine ⟨_, pe_lst q, esim_disp (o := .lst) (sh := .lst) (fl := fun ds => true) s hp (fun ds => rfl) (fun vs n _ => rfl) (fun ds h => by cases h) (fun ds h z => by cases z) fun σ H Q h => h⟩
end
end DL
namespace DL
open PySem PySem.Spec L2
section
variable {X : Cx} {W : WX} {ε ε1 ε2 ε3 : Bool} {k k1 k2 k3 : Kd} {ks : List Kd} {e a b c : Expr} {es rest : List Expr} {f fa fb fc : FE} {ff : FA} {p pos : Pos} {g g1 g2 : FT}
def fB (f : FE) : FT := fun env => (f env).bind fun d e => match d with
  | .bl b => .ok b e
  | _ => .stuck
theorem tsim_B {K : PySem.W.Frag} {t : TE} {t' : TT} (h : ESim K W ε k t f) (ht : ∀ σ H Q, t σ H (fun x H' => ∃ c, x = .bl c ∧ Q c H') → t' σ H Q) : TSim K W ε t' (fB f) := fun Z F H env σ fp Q r hq => by
  refine ht σ H Q (h Z F H env σ fp _ r (Post.bind hq id id fun d e1 h1 F' H' fp' v fr ev r' rep _ => ?_))
  cases d with
  | bl b =>
    cases rep.1
    exact ⟨b, rfl, h1 F' H' fp' ev r'⟩
  | _ => exact h1.elim
theorem dt_val (h : DE X W ε k e f) (he : ∀ whole, isTrue e X.env whole = (do let v ← whole; standAt e.pos; holding [v] (truthy v)) := by intro _; rfl) : DT X W ε e (fB f) := let ⟨_, q, s⟩ := h.ex; ⟨_, pt_val q he, tsim_B s fun σ H Q h => h⟩
theorem dt_cmp {op : CmpOp} {r : R2} {g : List D → Option D} (hr : OpR X (compareOp op) r) (ho : OpOk X.K (l2 r) g) (ha : DE X W ε1 k1 a fa) (hb : DE X W ε2 k2 b fb)
    (hp : ε2 = true → ∀ j, k1 ≠ .bor j := by first | exact fun h => (nomatch h) | exact fun _ j h => (nomatch h)) (hm : behindInMarks op b = false := by first | exact nomark _ | rfl) : DT X W (ε1 || (ε2 || false)) (.Compare a [op] [b] pos) (fB (fOp g (aCons fa (aCons fb aNil)))) := by
  obtain ⟨ta, tb, p1, p2, s⟩ := da_two ha hb hp
  exact ⟨_, pt_cmpR hr p1 p2 hm, tsim_B (esim_op (t' := tOp r ta tb) s ho fun σ H Q h => h) fun σ H Q h => h⟩
structure DW (X : Cx) (W : WX) (ε : Bool) (e : Expr) (f : FT) : Prop where
  ex : ∃ t, PW X e t ∧ TSim X.K W ε t f
theorem DW.dt (h : DW X W ε e g) : DT X W ε e g := let ⟨_, q, s⟩ := h.ex; ⟨_, q.pt, s⟩
def fAnd (f g : FT) : FT := fun env => (f env).bind fun b e => if b = true then g e else .ok false e
def fOr (f g : FT) : FT := fun env => (f env).bind fun b e => if b = true then .ok true e else g e
def fNot (f : FT) : FT := fun env => (f env).map (!·)
theorem dw_and1 (h : DT X W ε a g) : DW X W ε (.BoolOp .And [a] pos) g := let ⟨_, q, s⟩ := h.ex; ⟨_, pw_and1 q, s⟩
theorem dw_or1 (h : DT X W ε a g) : DW X W ε (.BoolOp .Or [a] pos) g := let ⟨_, q, s⟩ := h.ex; ⟨_, pw_or1 q, s⟩
theorem dw_and (h1 : DT X W ε1 a g1) (h2 : DW X W ε2 (.BoolOp .And (b :: rest) pos) g2) : DW X W (ε1 || ε2) (.BoolOp .And (a :: b :: rest) pos) (fAnd g1 g2) := by
  obtain ⟨t1, p1, s1⟩ := h1.ex
  obtain ⟨t2, p2, s2⟩ := h2.ex
  refine ⟨_, pw_and p1 p2, fun Z F H env σ fp Q r hq => ?_⟩
  refine s1 Z F H env σ fp _ r (Post.bind hq orL orLF fun c e1 h1 F1 H1 fp1 ev r1 => ?_)
  cases c with
  | true => exact s2 Z F1 H1 e1 σ fp1 Q r1 ((Post.seq (a := ()) (ε2 := ε2) ev h1).imp fun b e2 h3 F2 H2 fp2 ev2 r2 => h3 F2 H2 fp2 (ev.trans ev2) r2)
  | false => exact h1 F1 H1 fp1 (ev.mono orL orLF) r1
theorem dw_or (h1 : DT X W ε1 a g1) (h2 : DW X W ε2 (.BoolOp .Or (b :: rest) pos) g2) : DW X W (ε1 || ε2) (.BoolOp .Or (a :: b :: rest) pos) (fOr g1 g2) := by
  obtain ⟨t1, p1, s1⟩ := h1.ex
  obtain ⟨t2, p2, s2⟩ := h2.ex
  refine ⟨_, pw_or p1 p2, fun Z F H env σ fp Q r hq => ?_⟩
  refine s1 Z F H env σ fp _ r (Post.bind hq orL orLF fun c e1 h1 F1 H1 fp1 ev r1 => ?_)
  cases c with
  | false => exact s2 Z F1 H1 e1 σ fp1 Q r1 ((Post.seq (a := ()) (ε2 := ε2) ev h1).imp fun b e2 h3 F2 H2 fp2 ev2 r2 => h3 F2 H2 fp2 (ev.trans ev2) r2)
  | true => exact h1 F1 H1 fp1 (ev.mono orL orLF) r1
theorem dt_not (h : DT X W ε a g) : DT X W ε (.UnaryOp .Not a pos) (fNot g) := by
  obtain ⟨t, q, s⟩ := h.ex
  refine ⟨_, pt_not q, fun Z F H env σ fp Q r hq => s Z F H env σ fp _ r (Post.bind hq id id fun c e1 h1 F1 H1 fp1 ev r1 => h1 F1 H1 fp1 ev r1)⟩
def fAndV (f g : FE) : FE := fun env => (f env).bind fun d e => match d with
  | .bl true => g e
  | .bl false => .ok (.bl false) e
  | _ => .stuck
def fOrV (f g : FE) : FE := fun env => (f env).bind fun d e => match d with
  | .bl true => .ok (.bl true) e
  | .bl false => g e
  | _ => .stuck
def fNotV (f : FE) : FE := fun env => (f env).bind fun d e => match d with
  | .bl b => .ok (.bl (!b)) e
  | _ => .stuck
theorem de_bool1 {op} (h : DE X W ε k a f) : DE X W ε k (.BoolOp op [a] pos) f := let ⟨_, q, s⟩ := h.ex; ⟨_, pe_one q, s⟩
theorem de_and (h1 : DE X W ε1 k1 a fa) (h2 : DE X W ε2 .own (.BoolOp .And (b :: rest) pos) fb) : DE X W (ε1 || ε2) .own (.BoolOp .And (a :: b :: rest) pos) (fAndV fa fb) := by
  obtain ⟨t1, p1, s1⟩ := h1.ex
  obtain ⟨t2, p2, s2⟩ := h2.ex
  refine ⟨_, pe_and p1 p2, fun Z F H env σ fp Q r hq => ?_⟩
  refine s1 Z F H env σ fp _ r (Post.bind hq orL orLF fun d e1 h1 F1 H1 fp1 v fr ev r1 rep _ => ?_)
  cases d with
  | bl c =>
    cases rep.1
    refine ⟨c, rfl, ?_⟩
    cases c with
    | true => exact s2 Z F1 H1 e1 σ fp1 Q r1 ((Post.seq (a := ()) (ε2 := ε2) ev h1).imp fun b e2 h3 F2 H2 fp2 v fr ev2 r2 rp ko => h3 F2 H2 fp2 v fr (ev.trans ev2) r2 rp (ko.rel ev))
    | false => exact h1 F1 H1 fp1 (.bl false) [] (ev.mono orL orLF) r1 (.plain rfl) fun a ha => by cases ha
  | _ => exact h1.elim
theorem de_or (h1 : DE X W ε1 k1 a fa) (h2 : DE X W ε2 .own (.BoolOp .Or (b :: rest) pos) fb) : DE X W (ε1 || ε2) .own (.BoolOp .Or (a :: b :: rest) pos) (fOrV fa fb) := by
  obtain ⟨t1, p1, s1⟩ := h1.ex
  obtain ⟨t2, p2, s2⟩ := h2.ex
  refine ⟨_, pe_or p1 p2, fun Z F H env σ fp Q r hq => ?_⟩
  refine s1 Z F H env σ fp _ r (Post.bind hq orL orLF fun d e1 h1 F1 H1 fp1 v fr ev r1 rep _ => ?_)
  cases d with
  | bl c =>
    cases rep.1
    refine ⟨c, rfl, ?_⟩
    cases c with
    | false => exact s2 Z F1 H1 e1 σ fp1 Q r1 ((Post.seq (a := ()) (ε2 := ε2) ev h1).imp fun b e2 h3 F2 H2 fp2 v fr ev2 r2 rp ko => h3 F2 H2 fp2 v fr (ev.trans ev2) r2 rp (ko.rel ev))
    | true => exact h1 F1 H1 fp1 (.bl true) [] (ev.mono orL orLF) r1 (.plain rfl) fun a ha => by cases ha
  | _ => exact h1.elim
theorem de_not (h : DE X W ε k a f) : DE X W ε .own (.UnaryOp .Not a pos) (fNotV f) := by
  obtain ⟨t, q, s⟩ := h.ex
  refine ⟨_, pe_not q, fun Z F H env σ fp Q r hq => s Z F H env σ fp _ r (Post.bind hq id id fun d e1 h1 F1 H1 fp1 v fr ev r1 rep _ => ?_)⟩
  cases d with
  | bl c =>
    cases rep.1
    exact ⟨c, rfl, h1 F1 H1 fp1 (.bl (!c)) [] ev r1 (.plain rfl) fun a ha => by cases ha⟩
  | _ => exact h1.elim
def fIf (t : FT) (f g : FE) : FE := fun env => (t env).bind fun b e => if b = true then f e else g e
theorem de_ifExp (hc : DT X W ε1 c g) (ha : DE X W ε2 k a fa) (hb : DE X W ε3 k b fb) : DE X W (ε1 || (ε2 || ε3)) k (.IfExp c a b pos) (fIf g fa fb) := by
  obtain ⟨t1, p1, s1⟩ := hc.ex
  obtain ⟨t2, p2, s2⟩ := ha.ex
  obtain ⟨t3, p3, s3⟩ := hb.ex
  refine ⟨_, pe_ifExp p1 p2 p3, fun Z F H env σ fp Q r hq => ?_⟩
  refine s1 Z F H env σ fp _ r (Post.bind hq orL orLF fun c e1 h1 F1 H1 fp1 ev r1 => ?_)
  have h1' := Post.seq (a := ()) (ε2 := ε2 || ε3) ev h1
  cases c with
  | true =>
    refine s2 Z F1 H1 e1 σ fp1 Q r1 (Post.imp (h1'.mono orL orLF) fun d e2 h3 F2 H2 fp2 v fr ev2 r2 rp ko => h3 F2 H2 fp2 v fr ?_ r2 rp (ko.rel ev))
    exact ev.trans (ev2.mono orL orLF)
  | false =>
    refine s3 Z F1 H1 e1 σ fp1 Q r1 (Post.imp (h1'.mono orR orRF) fun d e2 h3 F2 H2 fp2 v fr ev2 r2 rp ko => h3 F2 H2 fp2 v fr ?_ r2 rp (ko.rel ev))
    exact ev.trans (ev2.mono orR orRF)
def fChain (g g' : List D → Option D) (fa fb fc : FE) : FE := fun env => (aCons fa (aCons fb aNil) env).bind fun ds e => match ds with
  | [x, y] => (match g [x, y] with
    | some (.bl true) => (fc e).bind fun z e2 => optR (g' [y, z]) e2
    | some (.bl false) => .ok (.bl false) e
    | _ => .stuck)
  | _ => .stuck
theorem esim_chain {K : PySem.W.Frag} {ta tb tc : TE} {r r' : R2} {g g' : List D → Option D} (ho : OpOk K (l2 r) g) (ho' : OpOk K (l2 r') g') (s1 : ESim K W false k1 ta fa) (s2 : ESim K W false k2 tb fb) (s3 : ESim K W false k3 tc fc) :
    ESim K W false .own (tChain r r' ta tb tc) (fChain g g' fa fb fc) := by
  intro Z F H env σ fp Q r0 hq
  have s := asim_cons s1 (asim_cons s2 asim_nil (fun h => by cases h)) (fun h => by cases h)
  show tCons ta (tCons tb tNil) σ H (fun vs H2 => l2 (fun x y H2 Q' => r x y H2 fun z H3 => ∃ k, z = .bl k ∧ (if k = true then tc σ H3 fun w' H4 => r' y w' H4 Q else Q (.bl false) H3)) vs H2 Q)
  refine s Z F H env σ fp _ r0 (Post.bind hq id id fun ds e1 h1 F1 H1 fp1 vs frs ev r1 rep ko => ?_)
  match ds, rep, h1 with
  | [x, y], rep, h1 =>
    obtain ⟨vx, vy, f1, f2, rfl, rfl, rx, ry⟩ := rep.two
    have h2 : Post K W false Z F H env σ fp (fun d env' => ∀ F' H' fp' v fr, Ev false F H env fp F' H' env' fp' → R K Z F' H' env' σ fp' → Rep K F' H' d v fr → KOk .own H env fp F' env' fp' fr → Q v H') (match g [x, y] with
      | some (.bl true) => (fc e1).bind fun z e2 => optR (g' [y, z]) e2
      | some (.bl false) => .ok (.bl false) e1
      | _ => .stuck) := h1
    cases q : g [x, y] with
    | none => rw [q] at h2; exact h2.elim
    | some d =>
      rw [q] at h2
      cases d with
      | bl b =>
        refine ho F1 H1 [x, y] [vx, vy] [f1, f2] (.bl b) _ r1.sub rep q fun F2 H2 v fr gr rp fresh => ?_
        cases rp.1
        refine ⟨b, rfl, ?_⟩
        have r2 := r1.grow gr
        have ev2 : Ev false F H env fp F2 H2 e1 fp1 := (ev.trans (gr.ev (ε := false)))
        cases b with
        | false => exact h2 F2 H2 fp1 (.bl false) [] ev2 r2 (.plain rfl) fun a ha => by cases ha
        | true =>
          refine s3 Z F2 H2 e1 σ fp1 _ r2 (Post.bind (Post.seq (a := ()) (ε2 := false) ev2 h2) id id fun z e2 h3 F3 H3 fp3 w fw ev3 r3 rw' _ => ?_)
          cases q2 : g' [y, z] with
          | none => rw [q2] at h3; exact h3.elim
          | some d =>
            rw [q2] at h3
            have ry3 : Rep K F3 H3 y vy f2 := (ry.grow gr).ev ev3 fun h => by cases h
            refine ho' F3 H3 [y, z] [vy, w] [f2, fw] d Q r3.sub ⟨ry3, rw', trivial⟩ q2 fun F4 H4 v fr gr4 rp4 fresh4 => ?_
            have ev4 := ev2.trans (ev3.trans (gr4.ev (ε := false)))
            exact h3 F4 H4 fp3 v fr ev4 (r3.grow gr4) rp4 fun a ha => ⟨.inl ((ev2.trans ev3).nd (fresh4 a ha).1), fun z => r3.own_dom z (fresh4 a ha).1, (fresh4 a ha).2⟩
      | _ => exact h2.elim
  | [], _, h1 => exact h1.elim
  | [_], _, h1 => exact h1.elim
  | _ :: _ :: _ :: _, _, h1 => exact h1.elim
theorem de_chain {op op' : CmpOp} {r r' : R2} {g g' : List D → Option D} (hr : OpR X (compareOp op) r) (hr' : OpR X (compareOp op') r') (ho : OpOk X.K (l2 r) g) (ho' : OpOk X.K (l2 r') g') (ha : DE X W false k1 a fa) (hb : DE X W false k2 b fb) (hc : DE X W false k3 c fc)
    (hm : lastMarks [op, op'] [b, c] = false := by with_unfolding_all rfl) : DE X W false .own (.Compare a [op, op'] [b, c] pos) (fChain g g' fa fb fc) := by
  obtain ⟨ta, p1, s1⟩ := ha.ex
  obtain ⟨tb, p2, s2⟩ := hb.ex
  obtain ⟨tc, p3, s3⟩ := hc.ex
  exact ⟨_, pe_chain hr hr' p1 p2 p3 hm, esim_chain ho ho' s1 s2 s3⟩
theorem dt_chain {op op' : CmpOp} {r r' : R2} {g g' : List D → Option D} (hr : OpR X (compareOp op) r) (hr' : OpR X (compareOp op') r') (ho : OpOk X.K (l2 r) g) (ho' : OpOk X.K (l2 r') g') (ha : DE X W false k1 a fa) (hb : DE X W false k2 b fb) (hc : DE X W false k3 c fc)
    (hm : lastMarks [op, op'] [b, c] = false := by with_unfolding_all rfl) : DT X W false (.Compare a [op, op'] [b, c] pos) (fB (fChain g g' fa fb fc)) := by
  obtain ⟨ta, p1, s1⟩ := ha.ex
  obtain ⟨tb, p2, s2⟩ := hb.ex
  obtain ⟨tc, p3, s3⟩ := hc.ex
  exact ⟨_, pt_chain hr hr' p1 p2 p3 hm, tsim_B (esim_chain ho ho' s1 s2 s3) fun σ H Q h => h⟩
def OSim (K : PySem.W.Frag) (W : WX) (ε : Bool) (t : TO) (f : Evn → Rs (Option Int)) : Prop := ∀ Z F H env σ fp Q, R K Z F H env σ fp →
  Post K W ε Z F H env σ fp (fun o env' => ∀ F' H' fp', Ev ε F H env fp F' H' env' fp' → R K Z F' H' env' σ fp' → Q o H') (f env) → t σ H Q
structure DO (X : Cx) (W : WX) (ε : Bool) (e : Option Expr) (f : Evn → Rs (Option Int)) : Prop where
  ex : ∃ t, PO X e t ∧ OSim X.K W ε t f
theorem do_none : DO X W false none (fun env => .ok none env) := ⟨_, po_none, fun Z F H env σ fp Q r hq => hq F H fp (Ev.refl (Z := Z) _ rfl) r⟩
def fPart (f : FE) : Evn → Rs (Option Int) := fun env => (f env).bind fun d e => match d with
  | .int i => .ok (some i) e
  | _ => .stuck
theorem do_some (h : DE X W ε k e f) : DO X W ε (some e) (fPart f) := by
  obtain ⟨t, q, s⟩ := h.ex
  refine ⟨_, po_some q, fun Z F H env σ fp Q r hq => s Z F H env σ fp _ r (Post.bind hq id id fun d e1 h1 F1 H1 fp1 v fr ev r1 rep _ => ?_)⟩
  cases d with
  | int i =>
    cases rep.1
    exact ⟨i, rfl, h1 F1 H1 fp1 ev r1⟩
  | _ => exact h1.elim
def cutD (xs : List D) (lo hi : Option Int) : List D := (xs.drop (HT.sIx xs.length 0 lo)).take (HT.sIx xs.length xs.length hi - HT.sIx xs.length 0 lo)
def oSl (d : D) (lo hi : Option Int) : Option D := match d with
  | .node _ .lst xs => if frzL xs = true then some (.node true .lst (cutD xs lo hi)) else none
  | .node _ .tup xs => if frzL xs = true then some (.node false .tup (cutD xs lo hi)) else none
  | .str z => if z.length ≤ sizeLine then some (.str (Txt.slice z lo hi)) else none
  | .scr ns => some (.node true .lst (cutD (ns.map .int) lo hi))
  | .tscr ns _ => some (.node true .lst (cutD (ns.map .int) lo hi))
  | _ => none
def rSl3 (K : PySem.W.Frag) : V → Option Int → Option Int → Hp → VK → Prop := fun x lo hi H Q => rSlL K x lo hi H Q ∨ (rSlA K x lo hi H Q ∨ C8.rSlX x lo hi H Q)
theorem sl_3 : SlR X (rSl3 X.K) := sl_list.or (sl_tupA.or C8.sl_txt)
theorem RepL.drop0 {K : PySem.W.Frag} {F H : Hp} : ∀ (n : Nat) {ds : List D} {vs : List V}, RepL K F H ds vs [] → RepL K F H (ds.drop n) (vs.drop n) []
  | 0, ds, vs, h => h
  | n + 1, [], vs, h => by cases h.1; exact h
  | n + 1, d :: ds, vs, h => by
    simp only [RepL] at h
    obtain ⟨v, ws, f1, f2, rfl, e, h1, h2, h3⟩ := h
    have e2 : f2 = [] := (List.append_eq_nil_iff.mp e.symm).2
    rw [e2] at h3
    exact RepL.drop0 n h3
theorem RepL.take0 {K : PySem.W.Frag} {F H : Hp} : ∀ (n : Nat) {ds : List D} {vs : List V}, RepL K F H ds vs [] → RepL K F H (ds.take n) (vs.take n) []
  | 0, ds, vs, h => ⟨rfl, rfl⟩
  | n + 1, [], vs, h => by cases h.1; exact h
  | n + 1, d :: ds, vs, h => by
    simp only [RepL] at h
    obtain ⟨v, ws, f1, f2, rfl, e, h1, h2, h3⟩ := h
    have e2 : f2 = [] := (List.append_eq_nil_iff.mp e.symm).2
    have e1 : f1 = [] := (List.append_eq_nil_iff.mp e.symm).1
    rw [e2] at h3
    rw [e1] at h2
    exact RepL.mk (f1 := []) (f2 := []) (fun a ha => by cases ha) h2 (RepL.take0 n h3)
def fSl (fa : FE) (lo hi : Evn → Rs (Option Int)) : FE := fun env => (fa env).bind fun d e1 => (lo e1).bind fun l e2 => (hi e2).bind fun u e3 => optR (oSl d l u) e3
theorem de_slice {lo hi : Option Expr} {gl gh : Evn → Rs (Option Int)} {p2} (ha : DE X W ε1 k1 a fa) (hl : DO X W ε2 lo gl) (hh : DO X W ε3 hi gh) (hp : (ε2 || ε3) = true → ∀ j, k1 ≠ .bor j := by first | exact fun h => (nomatch h) | exact fun _ j h => (nomatch h)) :
    DE X W (ε1 || (ε2 || ε3)) .own (.Subscript a (.Slice lo hi none p2) pos) (fSl fa gl gh) := by
  obtain ⟨ta, p1, s1⟩ := ha.ex
  obtain ⟨tl, p2, s2⟩ := hl.ex
  obtain ⟨th, p3, s3⟩ := hh.ex
  refine ⟨_, pe_slice sl_3 p1 p2 p3, fun Z F H env σ fp Q r hq => ?_⟩
  refine s1 Z F H env σ fp _ r (Post.bind hq orL orLF fun d e1 h1 F1 H1 fp1 v fr ev1 r1 rep ko => ?_)
  have h1' := Post.seq (a := ()) (ε2 := ε2 || ε3) ev1 h1
  refine s2 Z F1 H1 e1 σ fp1 _ r1 (Post.bind (h1'.mono id id) orL orLF fun l e2 h2 F2 H2 fp2 ev2 r2 => ?_)
  have h2' := Post.seq (a := ()) (ε2 := ε3) ev2 h2
  refine s3 Z F2 H2 e2 σ fp2 _ r2 (Post.bind (h2'.mono id id) id id fun u e3 h3 F3 H3 fp3 ev3 r3 => ?_)
  have rep2 := KOk.ev ev2 rep (fun z => hp (orL z)) ko
  have rep3 := KOk.ev ev3 rep2.1 (fun z => hp (orR z)) rep2.2
  have ev := ev1.trans (ev2.trans ev3)
  unfold oSl at h3
  have hs := r3.sub
  have fin : ∀ (F' H' : Hp) (v : V) (fr : List Addr), Grow F3 H3 F' H' → (∀ a ∈ fr, H3 a = none ∧ F' a = none) → Ev (ε1 || (ε2 || ε3)) F H env fp F' H' e3 fp3 ∧ R X.K Z F' H' e3 σ fp3 ∧ KOk .own H env fp F' e3 fp3 fr := fun F' H' v fr gr fresh =>
    ⟨(ev.trans (gr.ev (ε := false))).mono (by simp) (by simp), r3.grow gr, fun a ha => ⟨.inl (ev.nd (fresh a ha).1), fun z => r3.own_dom z (fresh a ha).1, (fresh a ha).2⟩⟩
  split at h3
  · split at h3
    · rename_i o xs hz
      obtain ⟨a, vs, fq, rfl, ha, ra, _⟩ := rep3.1.lst hs
      refine .inl ⟨a, vs, rfl, .of ha, new_lst (K := X.K) hs (xs := cutD xs l u) ?_ fun F' H' v fr gr rp fresh => ?_⟩
      · unfold cutD cutV
        rw [ra.len]
        exact (ra.nil0 hz).drop0 _ |>.take0 _
      · obtain ⟨x1, x2, x3⟩ := fin F' H' v fr gr fresh
        exact h3 F' H' fp3 v fr x1 x2 rp x3
    · exact h3.elim
  · split at h3
    · rename_i o xs hz
      obtain ⟨a, vs, fq, rfl, ha, ra, _⟩ := rep3.1.tup hs
      have key : RepL X.K F3 H3 (cutD xs l u) (cutV vs l u) [] := by
        unfold cutD cutV
        rw [ra.len]
        exact (ra.nil0 hz).drop0 _ |>.take0 _
      refine .inr (.inl ⟨a, vs, rfl, .of ha, fun hw => ?_, fun _ => new_tup hs key fun F' H' v fr gr rp fresh => ?_⟩)
      · have e : cutD xs l u = xs := by
          unfold cutD
          rw [← ra.len, hw.1, hw.2]
          simp [ra.len]
        obtain ⟨x1, x2, x3⟩ := fin F3 H3 (.ref a) [] (.refl hs) fun a ha => by cases ha
        rw [e] at h3
        cases o with
        | false =>
          have rr := rep3.1
          have e2 := Rep.frz_nil _ _ _ (by simp [D.frz, hz]) rr
          rw [e2] at rr
          exact h3 F3 H3 fp3 (.ref a) [] x1 x2 rr x3
        | true =>
          have rr := rep3.1
          simp only [Rep] at rr
          obtain ⟨_, _, _, _, _, _, _, _, _, z, _⟩ := rr
          rw [z rfl] at hz
          cases hz
      · obtain ⟨x1, x2, x3⟩ := fin F' H' v fr gr fresh
        exact h3 F' H' fp3 v fr x1 x2 rp x3
    · exact h3.elim
  · split at h3
    · rename_i z hz
      cases rep3.1.1
      obtain ⟨x1, x2, x3⟩ := fin F3 H3 (.str (Txt.slice z l u)) [] (.refl hs) fun a ha => by cases ha
      exact .inr (.inr ⟨z, rfl, hz, h3 F3 H3 fp3 _ [] x1 x2 (.plain rfl) x3⟩)
    · exact h3.elim
  · rename_i ns
    obtain ⟨a, rfl, _, sa⟩ := rep3.1
    have sq : SqL X.K H3 a (ns.map V.int) := by
      rcases sa with ⟨u, z, ⟨o, rfl⟩ | rfl⟩ | z
      · rcases hs a _ z with y | ⟨_, y⟩
        · exact .inl (.inr ⟨o, y⟩)
        · cases y
      · exact .inl (.inl ((hs a _ z).ex rfl))
      · exact .inr z
    have ra : ∀ l : List Int, RepL X.K F3 H3 (l.map D.int) (l.map V.int) [] := fun l => by
      induction l with
      | nil => exact ⟨rfl, rfl⟩
      | cons n l ih =>
        simp only [List.map_cons, RepL]
        exact ⟨_, _, [], [], rfl, rfl, fun a h => (nomatch h), ⟨rfl, rfl⟩, ih⟩
    refine .inl ⟨a, ns.map V.int, rfl, sq, new_lst (K := X.K) hs (xs := cutD (ns.map .int) l u) ?_ fun F' H' v fr gr rp fresh => ?_⟩
    · unfold cutD cutV
      rw [List.length_map, List.length_map]
      exact ((ra ns).drop0 _).take0 _
    · obtain ⟨x1, x2, x3⟩ := fin F' H' v fr gr fresh
      exact h3 F' H' fp3 v fr x1 x2 rp x3
  · rename_i ns T
    obtain ⟨⟨a, rfl, sa⟩, _⟩ := rep3.1
    have sq : SqL X.K H3 a (ns.map V.int) := by
      rcases sa with ⟨u, z, ⟨o, rfl⟩ | rfl⟩ | z
      · rcases hs a _ z with y | ⟨_, y⟩
        · exact .inl (.inr ⟨o, y⟩)
        · cases y
      · exact .inl (.inl ((hs a _ z).ex rfl))
      · exact .inr z
    have ra : ∀ l : List Int, RepL X.K F3 H3 (l.map D.int) (l.map V.int) [] := fun l => by
      induction l with
      | nil => exact ⟨rfl, rfl⟩
      | cons n l ih =>
        simp only [List.map_cons, RepL]
        exact ⟨_, _, [], [], rfl, rfl, fun a h => (nomatch h), ⟨rfl, rfl⟩, ih⟩
    refine .inl ⟨a, ns.map V.int, rfl, sq, new_lst (K := X.K) hs (xs := cutD (ns.map .int) l u) ?_ fun F' H' v fr gr rp fresh => ?_⟩
    · unfold cutD cutV
      rw [List.length_map, List.length_map]
      exact ((ra ns).drop0 _).take0 _
    · obtain ⟨x1, x2, x3⟩ := fin F' H' v fr gr fresh
      exact h3 F' H' fp3 v fr x1 x2 rp x3
  · exact h3.elim
end
end DL
namespace DL
open PySem PySem.Spec L2
inductive So where
  | nxt (env : Evn) | ret (d : D) (env : Evn) | brk (env : Evn) | cnt (env : Evn) | exc (c : Str) (x : D) (env : Evn) | stuck
abbrev FS := Evn → So
def Rs.so {α : Type} (r : Rs α) (k : α → Evn → So) : So := match r with
  | .ok a e => k a e
  | .exc c x e => .exc c x e
  | .stuck => .stuck
@[simp] theorem Rs.so_ok {α : Type} (a : α) (e : Evn) (k : α → Evn → So) : (Rs.ok a e).so k = k a e := (rfl)
@[simp] theorem Rs.so_exc {α : Type} (c : Str) (x : D) (e : Evn) (k : α → Evn → So) : (Rs.exc c x e : Rs α).so k = .exc c x e := (rfl)
@[simp] theorem Rs.so_stuck {α : Type} (k : α → Evn → So) : (Rs.stuck : Rs α).so k = .stuck := (rfl)
section
variable (K : PySem.W.Frag)
def SPost (W : WX) (Z : Zst) (F H : Hp) (env : Evn) (fp : Fp) (D_ : Ends) : So → Prop
  | .nxt env' => ∀ F' H' fp' σ', Ev true F H env fp F' H' env' fp' → R K Z F' H' env' σ' fp' → D_.nx σ' H'
  | .brk env' => ∀ F' H' fp' σ', Ev true F H env fp F' H' env' fp' → R K Z F' H' env' σ' fp' → D_.bk σ' H'
  | .cnt env' => ∀ F' H' fp' σ', Ev true F H env fp F' H' env' fp' → R K Z F' H' env' σ' fp' → D_.ct σ' H'
  | .ret d env' => ∀ F' H' fp' σ' v fr, Ev true F H env fp F' H' env' fp' → R K Z F' H' env' σ' fp' → Rep K F' H' d v fr → KOk .own H env fp F' env' fp' fr → D_.rt v H'
  | .exc c x env' => ∀ F' H' fp' σ' dx, Ev true F H env fp F' H' env' fp' → R K Z F' H' env' σ' fp' → Rep K F' H' x (.ref dx) [] → W (.ref (He.ga K c)) (some dx) σ' H'
  | .stuck => False
def SSim (W : WX) (ms : List Nat) (t : TS) (f : FS) : Prop := ∀ Z F H env σ fp D_, (∀ p ∈ Z.pins, p.1 ∈ ms) → R K Z F H env σ fp → SPost K W Z F H env fp D_ (f env) → t D_ σ H
end
structure DS (X : Cx) (W : WX) (ms : List Nat) (st : Stmt) (f : FS) : Prop where
  ex : ∃ t, PS X st t ∧ SSim X.K W ms t f
structure DSs (X : Cx) (W : WX) (ms : List Nat) (st : List Stmt) (f : FS) : Prop where
  ex : ∃ t, PSs X st t ∧ SSim X.K W ms t f
def fNext : FS := fun env => .nxt env
def fSeq (f g : FS) : FS := fun env => match f env with
  | .nxt e => g e
  | o => o
section
variable {K : PySem.W.Frag} {W : WX} {ε : Bool} {F H F1 H1 F' H' : Hp} {env env1 env' : Evn} {fp fp1 fp' : Fp} {Z : Zst} {σ : L2.St} {D_ : Ends}
theorem SPost.seq (e : Ev ε F H env fp F1 H1 env1 fp1) {o : So} (h : SPost K W Z F H env fp D_ o) : SPost K W Z F1 H1 env1 fp1 D_ o := by
  cases o with
  | nxt e' => exact fun F' H' fp' σ' e2 r => h F' H' fp' σ' ((e.trans e2).mono (fun _ => rfl) fun z => by cases z) r
  | brk e' => exact fun F' H' fp' σ' e2 r => h F' H' fp' σ' ((e.trans e2).mono (fun _ => rfl) fun z => by cases z) r
  | cnt e' => exact fun F' H' fp' σ' e2 r => h F' H' fp' σ' ((e.trans e2).mono (fun _ => rfl) fun z => by cases z) r
  | ret d e' => exact fun F' H' fp' σ' v fr e2 r rp ko => h F' H' fp' σ' v fr ((e.trans e2).mono (fun _ => rfl) fun z => by cases z) r rp (ko.rel e)
  | exc c x e' => exact fun F' H' fp' σ' dx e2 r rp => h F' H' fp' σ' dx ((e.trans e2).mono (fun _ => rfl) fun z => by cases z) r rp
  | stuck => exact h
theorem SPost.bind {α : Type} {G1 : α → Evn → Prop} {r : Rs α} {kk : α → Evn → So} (h : SPost K W Z F H env fp D_ (r.so kk)) (i : ∀ a e, SPost K W Z F H env fp D_ (kk a e) → G1 a e) : Post K W ε Z F H env σ fp G1 r := by
  cases r with
  | ok b e' => exact i _ _ h
  | exc c x e' => exact fun F' H' fp' dx e2 r2 h2 => h F' H' fp' σ dx (e2.mono (fun _ => rfl) fun z => by cases z) r2 h2
  | stuck => exact h.elim
end
section
variable {X : Cx} {W : WX} {ε ε1 ε2 : Bool} {k k1 k2 : Kd} {ks : List Kd} {ms : List Nat} {e a b c : Expr} {es : List Expr} {st : Stmt} {sts rest : List Stmt} {f g : FS} {fe fa fb : FE} {ft : FT} {pos : Pos}
theorem dss_nil : DSs X W ms [] fNext := ⟨_, pss_nil, fun Z F H env σ fp D_ _ r h => h F H fp σ (Ev.refl (Z := Z) _ rfl) r⟩
theorem dss_cons (h1 : DS X W ms st f) (h2 : DSs X W ms rest g) : DSs X W ms (st :: rest) (fSeq f g) := by
  obtain ⟨t1, p1, s1⟩ := h1.ex
  obtain ⟨t2, p2, s2⟩ := h2.ex
  refine ⟨_, pss_cons p1 p2, fun Z F H env σ fp D_ hm r h => ?_⟩
  refine s1 Z F H env σ fp { D_ with nx := t2 D_ } hm r ?_
  unfold fSeq at h
  cases q : f env with
  | nxt e1 =>
    rw [q] at h
    exact fun F' H' fp' σ' ev r' => s2 Z F' H' e1 σ' fp' D_ hm r' (h.seq ev)
  | ret d e1 => rw [q] at h; exact h
  | brk e1 => rw [q] at h; exact h
  | cnt e1 => rw [q] at h; exact h
  | exc c x e1 => rw [q] at h; exact h
  | stuck => rw [q] at h; exact h
theorem dss_one (h1 : DS X W ms st f) : DSs X W ms [st] f := by
  obtain ⟨t1, p1, s1⟩ := h1.ex
  exact ⟨_, pss_one p1, s1⟩
def fBrk : FS := fun env => .brk env
def fCnt : FS := fun env => .cnt env
def fExpr (fe : FE) : FS := fun env => (fe env).so fun _ e => .nxt e
theorem ds_expr (h : DE X W ε k e fe) (hs : swapsWith e none pos.line X.env = pure false := by rfl) : DS X W ms (.Expr e pos) (fExpr fe) := by
  obtain ⟨t, q, s⟩ := h.ex
  refine ⟨_, ps_expr q hs, fun Z F H env σ fp D_ _ r h => s Z F H env σ fp _ r (SPost.bind h fun d e1 h1 F1 H1 fp1 v fr ev r1 _ _ => h1 F1 H1 fp1 σ (ev.mono (fun _ => rfl) fun z => by cases z) r1)⟩
def fRet (fe : FE) : FS := fun env => (fe env).so fun d e => .ret d e
theorem ds_ret (h : DE X W ε .own e fe) : DS X W ms (.Return (some e) pos) (fRet fe) := by
  obtain ⟨t, q, s⟩ := h.ex
  refine ⟨_, ps_ret q, fun Z F H env σ fp D_ _ r h => s Z F H env σ fp _ r (SPost.bind h fun d e1 h1 F1 H1 fp1 v fr ev r1 rp ko => h1 F1 H1 fp1 σ v fr (ev.mono (fun _ => rfl) fun z => by cases z) r1 rp ko)⟩
def fIfS (t : FT) (f g : FS) : FS := fun env => (t env).so fun b e => if b = true then f e else g e
theorem ds_if (hc : DT X W ε c ft) (ha : DSs X W ms sts f) (hb : DSs X W ms rest g) : DS X W ms (.If c sts rest pos) (fIfS ft f g) := by
  obtain ⟨t1, p1, s1⟩ := hc.ex
  obtain ⟨t2, p2, s2⟩ := ha.ex
  obtain ⟨t3, p3, s3⟩ := hb.ex
  refine ⟨_, ps_if p1 p2 p3, fun Z F H env σ fp D_ hm r h => s1 Z F H env σ fp _ r (SPost.bind h fun b e1 h1 F1 H1 fp1 ev r1 => ?_)⟩
  cases b with
  | true => exact s2 Z F1 H1 e1 σ fp1 D_ hm r1 (h1.seq ev)
  | false => exact s3 Z F1 H1 e1 σ fp1 D_ hm r1 (h1.seq ev)
inductive Md where
  | own | bor (r : Option Nat)
def VMo (H0 : Hp) (env0 : Evn) (fp0 : Fp) (Z : Zst) (F H : Hp) (env : Evn) (fp : Fp) (fr : List Addr) : Md → Prop
  | .own => ∀ a ∈ fr, (H0 a = none ∨ OwnA env0 fp0 a) ∧ (∀ j, hold env j → a ∉ fp j) ∧ (¬ Z.B a ∧ F a = none) ∧ NF H a
  | .bor none => ∀ a ∈ fr, Z.B a
  | .bor (some j) => hold env j ∧ ∀ a ∈ fr, a ∈ fp j
def HoldA (env : Evn) (fp : Fp) (a : Addr) : Prop := ∃ i, hold env i ∧ a ∈ fp i
def SubA (H : Hp) (env env' : Evn) (fp fp' : Fp) (fr : List Addr) : Prop := (∀ a, OwnA env' fp' a → OwnA env fp a ∨ a ∈ fr ∨ H a = none) ∧ ∀ a, LkA env' fp' a → LkA env fp a
theorem SubA.hold {H : Hp} {env env' : Evn} {fp fp' : Fp} {fr : List Addr} (h : SubA H env env' fp fp' fr) {a : Addr} (x : HoldA env' fp' a) : HoldA env fp a ∨ a ∈ fr ∨ H a = none := by
  obtain ⟨i, hi | hi, ha⟩ := x
  · exact (h.1 a ⟨i, hi, ha⟩).imp (fun ⟨j, hj, hm⟩ => ⟨j, .inl hj, hm⟩) id
  · obtain ⟨j, hj, hm⟩ := h.2 a ⟨i, hi, ha⟩
    exact .inl ⟨j, .inr hj, hm⟩
theorem SubA.refl {H : Hp} {env : Evn} {fp : Fp} {fr : List Addr} : SubA H env env fp fp fr := ⟨fun _ h => .inl h, fun _ h => h⟩
structure Md.keeps (md : Md) (fr : List Addr) (F H F' H' : Hp) (env env' : Evn) (fp fp' : Fp) : Prop where
  keep : ∀ a o, H a = some o → ¬ OwnA env fp a → a ∉ fr → H' a = some o
  dom : ∀ a, H a ≠ none → H' a ≠ none
  nofz : ∀ a o u, H' a = some (.frz o u) → H a = some (.frz o u)
  bor : ∀ j, md = .bor (some j) → (hold env' j ∧ fp' j = fp j) ∧ ∀ a ∈ fp j, ∀ o, H a = some o → H' a = some o
  sub : ∀ a u, F a = some u → F' a = some u
  new : ∀ a, F a = none → F' a ≠ none → H a = none
theorem Md.keeps.here {md : Md} {fr : List Addr} {F H : Hp} {env env' : Evn} {fp fp' : Fp} (h : ∀ j, md = .bor (some j) → hold env' j ∧ fp' j = fp j) : md.keeps fr F H F H env env' fp fp' :=
  ⟨fun a o h _ _ => h, fun a h => h, fun _ _ _ h => h, fun j e => ⟨h j e, fun a _ o h => h⟩, fun _ _ h => h, fun a h n => absurd h n⟩
def GSim (K : PySem.W.Frag) (b : Bool) (ms : List Nat) (t : TG) (g : Md → D → Evn → Option Evn) : Prop := ∀ Z F0 H0 env0 fp0 F H env σ fp v d fr md Q, (∀ p ∈ Z.pins, p.1 ∈ ms) → Ev true F0 H0 env0 fp0 F H env fp → R K Z F H env σ fp →
  Rep K F H d v fr → VMo H0 env0 fp0 Z F H env fp fr md → (∃ env', g md d env = some env' ∧ ∀ σ' F' H' fp', (b = true → Grow F H F' H') → Ev true F0 H0 env0 fp0 F' H' env' fp' → R K Z F' H' env' σ' fp' → SubA H env env' fp fp' fr → md.keeps fr F H F' H' env env' fp fp' → Q σ' H') → t v σ H Q
def GsSim (K : PySem.W.Frag) (b : Bool) (ms : List Nat) (t : TGs) (g : Md → List D → Evn → Option Evn) : Prop := ∀ Z F0 H0 env0 fp0 F H env σ fp vs ds fr md Q, (∀ p ∈ Z.pins, p.1 ∈ ms) → Ev true F0 H0 env0 fp0 F H env fp → R K Z F H env σ fp →
  RepL K F H ds vs fr → VMo H0 env0 fp0 Z F H env fp fr md → (∃ env', g md ds env = some env' ∧ ∀ σ' F' H' fp', (b = true → Grow F H F' H') → Ev true F0 H0 env0 fp0 F' H' env' fp' → R K Z F' H' env' σ' fp' → SubA H env env' fp fp' fr → md.keeps fr F H F' H' env env' fp fp' → Q σ' H') → t vs σ H Q
mutual
def tgPure : Expr → Bool
  | .Name _ _ => true
  | .Tuple es _ _ => tgPures es
  | .Starred e _ => tgPure e
  | _ => false
def tgPures : List Expr → Bool
  | [] => true
  | e :: es => tgPure e && tgPures es
end
structure DG (X : Cx) (ms : List Nat) (tg : Expr) (g : Md → D → Evn → Option Evn) : Prop where
  ex : ∃ t, PG X tg t ∧ GSim X.K (tgPure tg) ms t g
structure DGs (X : Cx) (ms : List Nat) (tg : List Expr) (g : Md → List D → Evn → Option Evn) : Prop where
  ex : ∃ t, PGs X tg t ∧ GsSim X.K (tgPures tg) ms t g
def gNm (i : Nat) : Md → D → Evn → Option Evn := fun md d env => if i < env.length then (match md with
  | .own => some (putE i (.own d) env)
  | .bor r => if r = some i then none else some (putE i (if d.frz = true then .own d else .bor r d) env)) else none
theorem gsim_name {K : PySem.W.Frag} {b : Bool} {i : Nat} (hi : i ∉ ms) : GSim K b ms (gName i) (gNm i) := by
  intro Z F0 H0 env0 fp0 F H env σ fp v d fr md Q hm e0 r rep vm ⟨env', hg, hq⟩
  unfold gNm at hg
  split at hg
  case isFalse => cases hg
  rename_i hlen
  have hσ : ∀ j, j ≠ i → (σ.set i (some v))[j]? = σ[j]? := fun j hj => List.getElem?_set_ne (Ne.symm hj)
  have hl : (σ.set i (some v)).length = σ.length := List.length_set ..
  have hself : (σ.set i (some v))[i]? = some (some v) := List.getElem?_set_self (by rw [r.len.1, ← r.len.2]; exact hlen)
  have hpin : ∀ p ∈ Z.pins, (σ.set i (some v))[p.1]? = some p.2 := fun p hp => by
    have ne : p.1 ≠ i := fun z => hi (z ▸ hm p hp)
    rw [hσ _ ne]
    exact r.pin p hp
  have holdsub : ∀ {s : Sl} {f' : List Addr}, (∀ d, s = .own d → ∀ a ∈ f', a ∈ fr) → (∀ d, s ≠ .bor (some i) d) → SubA H env (putE i s env) fp (fset fp i f') fr := by
    intro s f' h1 h2
    refine ⟨fun a ⟨j, hj, ha⟩ => ?_, fun a ⟨j, hj, ha⟩ => ?_⟩
    · by_cases hji : j = i
      · subst hji
        rw [fset_same] at ha
        obtain ⟨d', q⟩ := hj
        rw [putE_same hlen] at q
        cases q
        exact .inr (.inl (h1 d' rfl a ha))
      · rw [fset_ne hji] at ha
        exact .inl ⟨j, (isOwn_put hji).mp hj, ha⟩
    · by_cases hji : j = i
      · subst hji
        obtain ⟨d', q⟩ := hj
        rw [putE_same hlen] at q
        cases q
        exact absurd rfl (h2 d')
      · rw [fset_ne hji] at ha
        exact ⟨j, (isLk_put hji).mp hj, ha⟩
  cases md with
  | own =>
    cases hg
    refine hq _ F H (fset fp i fr) (fun _ => Grow.refl r.sub) (e0.put hlen (fun d' hd a ha => (vm a ha).1) fun d' h => by cases h) (r.put hlen hσ hl hpin ⟨⟨v, hself, rep⟩, fun j hj hh a ha => (vm a ha).2.1 j hh, fun a ha => (vm a ha).2.2⟩) (holdsub (fun d' _ a ha => ha) fun d' h => by cases h) (.here fun j h => by cases h)
  | bor m =>
    have hg' : (if m = some i then none else some (putE i (if d.frz = true then .own d else .bor m d) env)) = some env' := hg
    split at hg'
    case isTrue => cases hg'
    rename_i hmi
    cases hg'
    have hk : ∀ (s : Sl) (f' : List Addr), Md.keeps (.bor m) fr F H F H env (putE i s env) fp (fset fp i f') := fun s f' => .here fun j h => by
      cases h
      have hji : j ≠ i := fun z => hmi (by rw [z])
      exact ⟨(hold_put hji).mpr vm.1, fset_ne hji⟩
    by_cases hz : d.frz = true
    · rw [if_pos hz] at hq
      have e := Rep.frz_nil d v fr hz rep
      subst e
      refine hq _ F H (fset fp i []) (fun _ => Grow.refl r.sub) (e0.put hlen (fun d' hd a ha => by cases ha) fun d' h => by cases h) (r.put hlen hσ hl hpin ⟨⟨v, hself, rep⟩, fun j hj hh a ha => (by cases ha), fun a ha => (by cases ha)⟩) (holdsub (fun d' _ a ha => ha) fun d' h => by cases h) (hk _ _)
    · rw [if_neg hz] at hq
      refine hq _ F H (fset fp i fr) (fun _ => Grow.refl r.sub) (e0.put hlen (fun d' hd => by cases hd) fun d' h => by cases h; exact hmi rfl) (r.put hlen hσ hl hpin ?_) (holdsub (fun d' h => by cases h) fun d' h => by cases h; exact hmi rfl) (hk _ _)
      cases m with
      | none => exact ⟨v, hself, rep, vm⟩
      | some j => exact ⟨fun z => hmi (by rw [z]), vm.1, v, hself, rep, vm.2⟩
theorem dg_name (i : Nat) {x : Str} (hN : X.N.Nodup) (hm : i ∉ ms := by decide) (hi : X.N[i]? = some x := by rfl) (hx : Loc X.env.scope x := by first | exact Or.inl rfl | exact Or.inr rfl) (hf : X.fn x = true ∨ X.env.scope.names.lookup x = some .local := by first | exact .inl rfl | exact .inr rfl | assumption) :
    DG X ms (.Name x pos) (gNm i) := ⟨_, pg_name hN hi hx hf, gsim_name hm⟩
def gsNil : Md → List D → Evn → Option Evn := fun _ ds env => match ds with
  | [] => some env
  | _ => none
def gsCons (g : Md → D → Evn → Option Evn) (gs : Md → List D → Evn → Option Evn) : Md → List D → Evn → Option Evn := fun md ds env => match ds with
  | d :: ds => (g md d env).bind (gs md ds)
  | [] => none
theorem gssim_nil {K : PySem.W.Frag} {b : Bool} : GsSim K b ms gNil gsNil := fun Z F0 H0 env0 fp0 F H env σ fp vs ds fr md Q hm e0 r rep vm ⟨env', hg, hq⟩ => by
  cases ds with
  | nil =>
    cases hg
    cases rep.1
    exact ⟨rfl, hq σ F H fp (fun _ => Grow.refl r.sub) e0 r .refl (.here fun j h => by subst h; exact ⟨vm.1, rfl⟩)⟩
  | cons d ds => cases hg
theorem dgs_nil : DGs X ms [] gsNil := ⟨_, pgs_nil, gssim_nil⟩
theorem VMo.left {H0 : Hp} {env0 env : Evn} {fp0 fp : Fp} {Z : Zst} {F H : Hp} {f1 f2 : List Addr} {md : Md} (h : VMo H0 env0 fp0 Z F H env fp (f1 ++ f2) md) : VMo H0 env0 fp0 Z F H env fp f1 md := by
  cases md with
  | own => exact fun a ha => h a (List.mem_append_left _ ha)
  | bor m =>
    cases m with
    | none => exact fun a ha => h a (List.mem_append_left _ ha)
    | some j => exact ⟨h.1, fun a ha => h.2 a (List.mem_append_left _ ha)⟩
theorem gssim_cons {K : PySem.W.Frag} {b1 b2 : Bool} {t1 : TG} {t2 : TGs} {g : Md → D → Evn → Option Evn} {gs : Md → List D → Evn → Option Evn} (s1 : GSim K b1 ms t1 g) (s2 : GsSim K b2 ms t2 gs) : GsSim K (b1 && b2) ms (gCons t1 t2) (gsCons g gs) := by
  intro Z F0 H0 env0 fp0 F H env σ fp vs ds fr md Q hm e0 r rep vm ⟨env', hg, hq⟩
  cases ds with
  | nil => cases hg
  | cons d ds =>
    simp only [RepL] at rep
    obtain ⟨v, ws, f1, f2, rfl, rfl, h1, h2, h3⟩ := rep
    have hg' : (g md d env).bind (gs md ds) = some env' := hg
    rw [Option.bind_eq_some_iff] at hg'
    obtain ⟨e1, g1, g2⟩ := hg'
    have kp : ∀ {F1 H1 e1 fp1}, Md.keeps md f1 F H F1 H1 env e1 fp fp1 → ∀ a ∈ f2, ∀ o, H a = some o → H1 a = some o := fun hk a ha o ho => by
      have n1 : a ∉ f1 := fun z => h1 a z ha
      cases md with
      | own => exact hk.keep a o ho (fun ⟨j, hj, hm⟩ => (vm a (List.mem_append_right _ ha)).2.1 j (.inl hj) hm) n1
      | bor m =>
        cases m with
        | none => exact hk.keep a o ho (fun z => r.own_B z (vm a (List.mem_append_right _ ha))) n1
        | some j => exact (hk.bor j rfl).2 a (vm.2 a (List.mem_append_right _ ha)) o ho
    refine ⟨v, ws, rfl, s1 Z F0 H0 env0 fp0 F H env σ fp v d f1 md _ hm e0 r h2 vm.left ⟨e1, g1, fun σ1 F1 H1 fp1 gr1 ev1 r1 hh hk => ?_⟩⟩
    refine s2 Z F0 H0 env0 fp0 F1 H1 e1 σ1 fp1 ws ds f2 md Q hm ev1 r1 (RepL.mono hk.sub ds ws f2 (fun a ha u hu => hu.same fun o ho => kp hk a ha o ho) h3) ?_ ⟨env', g2, fun σ2 F2 H2 fp2 gr2 ev2 r2 hh2 hk2 => hq σ2 F2 H2 fp2 (fun hb => (gr1 (Bool.and_eq_true_iff.mp hb).1).trans (gr2 (Bool.and_eq_true_iff.mp hb).2)) ev2 r2 ⟨fun a h => ?_, fun a h => hh.2 a (hh2.2 a h)⟩ ⟨fun a o ho hn hf => ?_, fun a h => hk2.dom a (hk.dom a h), fun a o u h => hk.nofz a o u (hk2.nofz a o u h), fun j h => ?_, fun a u h => hk2.sub a u (hk.sub a u h), fun a h n => ?_⟩⟩
    · cases md with
      | own =>
        intro a ha
        obtain ⟨q1, q2, q3, q4⟩ := vm a (List.mem_append_right _ ha)
        refine ⟨q1, fun j hj hm => ?_, ⟨q3.1, ?_⟩, fun o u ho => q4 o u (hk.nofz a o u ho)⟩
        rcases hh.hold ⟨j, hj, hm⟩ with ⟨i, hi, hai⟩ | z | z
        · exact q2 i hi hai
        · exact h1 a z ha
        · exact RepL.dom ds ws f2 h3 a ha z
        · cases q : F1 a with
          | none => rfl
          | some u => exact absurd (hk.new a q3.2 (by rw [q]; exact fun z => by cases z)) (RepL.dom ds ws f2 h3 a ha)
      | bor m =>
        cases m with
        | none => exact fun a ha => vm a (List.mem_append_right _ ha)
        | some j =>
          obtain ⟨⟨k1, k2⟩, _⟩ := hk.bor j rfl
          exact ⟨k1, fun a ha => by rw [k2]; exact vm.2 a (List.mem_append_right _ ha)⟩
    · rcases hh2.1 a h with z | z | z
      · rcases hh.1 a z with z | z | z
        · exact .inl z
        · exact .inr (.inl (List.mem_append_left _ z))
        · exact .inr (.inr z)
      · exact .inr (.inl (List.mem_append_right _ z))
      · refine .inr (.inr ?_)
        cases q : H a with
        | none => rfl
        | some o => exact absurd z (hk.dom a (by rw [q]; exact fun y => by cases y))
    · refine hk2.keep a o (hk.keep a o ho hn fun z => hf (List.mem_append_left _ z)) (fun z => ?_) fun z => hf (List.mem_append_right _ z)
      rcases hh.1 a z with z | z | z
      · exact hn z
      · exact hf (List.mem_append_left _ z)
      · rw [z] at ho; cases ho
    · obtain ⟨⟨k1, k2⟩, k5⟩ := hk.bor j h
      obtain ⟨⟨k3, k4⟩, k6⟩ := hk2.bor j h
      exact ⟨⟨k3, by rw [k4, k2]⟩, fun a ha o ho => k6 a (by rw [k2]; exact ha) o (k5 a ha o ho)⟩
    · cases q : F1 a with
      | none =>
        have z := hk2.new a q n
        cases w : H a with
        | none => rfl
        | some o => exact absurd z (hk.dom a (by rw [w]; exact fun z => by cases z))
      | some u => exact hk.new a h (by rw [q]; exact fun z => by cases z)
theorem dgs_cons {tg : Expr} {tgs : List Expr} {g : Md → D → Evn → Option Evn} {gs : Md → List D → Evn → Option Evn} (h1 : DG X ms tg g) (h2 : DGs X ms tgs gs)
    (hs : (assignEach (tg :: tgs) X.env).map (·.2) = assign tg X.env :: (assignEach tgs X.env).map (·.2) := by rfl) : DGs X ms (tg :: tgs) (gsCons g gs) := by
  obtain ⟨t1, p1, s1⟩ := h1.ex
  obtain ⟨t2, p2, s2⟩ := h2.ex
  exact ⟨_, pgs_cons p1 p2 hs, gssim_cons s1 s2⟩
def gTu (gs : Md → List D → Evn → Option Evn) : Md → D → Evn → Option Evn := fun md d env => match d with
  | .node _ .tup xs => gs md xs env
  | _ => none
theorem VMo.sub {H0 : Hp} {env0 env : Evn} {fp0 fp : Fp} {Z : Zst} {F H : Hp} {f1 f2 : List Addr} {md : Md} (h : VMo H0 env0 fp0 Z F H env fp f1 md) (s : ∀ a ∈ f2, a ∈ f1) : VMo H0 env0 fp0 Z F H env fp f2 md := by
  cases md with
  | own => exact fun a ha => h a (s a ha)
  | bor m =>
    cases m with
    | none => exact fun a ha => h a (s a ha)
    | some j => exact ⟨h.1, fun a ha => h.2 a (s a ha)⟩
theorem SubA.sub {H : Hp} {env env' : Evn} {fp fp' : Fp} {f1 f2 : List Addr} (h : SubA H env env' fp fp' f1) (s : ∀ a ∈ f1, a ∈ f2) : SubA H env env' fp fp' f2 := ⟨fun a x => (h.1 a x).imp id fun y => y.imp (s a) id, h.2⟩
theorem Md.keeps.subA {md : Md} {f1 f2 : List Addr} {F F' H H' : Hp} {env env' : Evn} {fp fp' : Fp} (h : Md.keeps md f1 F H F' H' env env' fp fp') (s : ∀ a ∈ f1, a ∈ f2) : Md.keeps md f2 F H F' H' env env' fp fp' := ⟨fun a o x y z => h.keep a o x y fun w => z (s a w), h.dom, h.nofz, h.bor, h.sub, h.new⟩
theorem gsim_dg_tup {K : PySem.W.Frag} {b : Bool} {gs : Md → List D → Evn → Option Evn} {n : Nat} {t : TGs} (s : GsSim K b ms t gs) (hl : ∀ md ds env env', gs md ds env = some env' → ds.length = n) : GSim K b ms (gTup K n t) (gTu gs) := by
  intro Z F0 H0 env0 fp0 F H env σ fp v d fr md Q hm e0 r rep vm ⟨env', hg, hq⟩
  unfold gTu at hg
  split at hg
  · obtain ⟨a, vs, fq, rfl, ha, ra, sb⟩ := rep.tup r.sub
    refine ⟨a, vs, rfl, .of ha, by rw [ra.len]; exact hl _ _ _ _ hg, s Z F0 H0 env0 fp0 F H env σ fp vs _ fq md Q hm e0 r ra (vm.sub sb) ⟨env', hg, fun σ' F' H' fp' gr ev r' hh hk => hq σ' F' H' fp' gr ev r' (hh.sub sb) (hk.subA sb)⟩⟩
  · cases hg
theorem dg_tup {gs : Md → List D → Evn → Option Evn} {k' n : Nat} (hc : X.calm = true) (h : DGs X ms es gs) (hl : ∀ md ds env env', gs md ds env = some env' → ds.length = n)
    (hn : (assignEach es X.env).length = n := by rfl) (hst : (assignEach es X.env).findIdx? (·.1) = none := by rfl) : DG X ms (.Tuple es k' pos) (gTu gs) := by
  obtain ⟨t, p, s⟩ := h.ex
  exact ⟨_, pg_tup hc p hn hst, gsim_dg_tup s hl⟩
theorem gsNil_len : ∀ md ds env env', gsNil md ds env = some env' → ds.length = 0 := fun md ds env env' h => by
  cases ds with
  | nil => rfl
  | cons d ds => cases h
theorem gsCons_len {g : Md → D → Evn → Option Evn} {gs : Md → List D → Evn → Option Evn} {n : Nat} (h : ∀ md ds env env', gs md ds env = some env' → ds.length = n) : ∀ md ds env env', gsCons g gs md ds env = some env' → ds.length = n + 1 := fun md ds env env' q => by
  cases ds with
  | nil => cases q
  | cons d ds =>
    have q' : (g md d env).bind (gs md ds) = some env' := q
    rw [Option.bind_eq_some_iff] at q'
    obtain ⟨e1, _, g2⟩ := q'
    rw [List.length_cons, h md ds e1 env' g2]
def optS (o : Option Evn) : So := match o with
  | some e => .nxt e
  | none => .stuck
@[simp] theorem optS_some (e : Evn) : optS (some e) = .nxt e := (rfl)
@[simp] theorem optS_none : optS none = .stuck := (rfl)
def mdOf (k : Kd) (env : Evn) : Option Md := match k with
  | .own => some .own
  | .frz => some .own
  | .bor j => match env[j]? with
    | some (.own _) => some (.bor (some j))
    | some (.bor r _) => some (.bor r)
    | _ => none
theorem VMo.of_kd {K : PySem.W.Frag} {Z : Zst} {F0 H0 F H : Hp} {env0 env : Evn} {fp0 fp : Fp} {σ0 σ : L2.St} {fr : List Addr} {md : Md} (r0 : R K Z F0 H0 env0 σ0 fp0) (e : Ev ε F0 H0 env0 fp0 F H env fp) (r : R K Z F H env σ fp) (x : KOk k H0 env0 fp0 F env fp fr) (h : mdOf k env = some md) :
    VMo H0 env0 fp0 Z F H env fp fr md := by
  cases k with
  | own =>
    cases h
    have ap := r0.apart e x
    exact fun a ha => ⟨(x a ha).1, fun j hj => ap.1 j hj a ha, ap.2 a ha⟩
  | frz =>
    cases h
    have e : fr = [] := x
    subst e
    exact fun a ha => by cases ha
  | bor j =>
    obtain ⟨x1, x2⟩ := x
    have s := r.slot j
    unfold SlotR at s
    have h' : (match env[j]? with
      | some (.own _) => some (Md.bor (some j))
      | some (.bor r _) => some (Md.bor r)
      | _ => none) = some md := h
    cases q : env[j]? with
    | none => rw [q] at h'; cases h'
    | some t =>
      rw [q] at h' s
      cases t with
      | dead => cases h'
      | own d =>
        cases h'
        exact ⟨.inl ⟨d, q⟩, x2⟩
      | bor m d =>
        cases h'
        cases m with
        | none =>
          obtain ⟨v, _, _, h3⟩ := s
          exact fun a ha => h3 a (x2 a ha)
        | some m =>
          obtain ⟨v, _, _, h3, h4⟩ := s
          exact ⟨h3, fun a ha => h4 a (x2 a ha)⟩
def fAsg (k : Kd) (fe : FE) (g : Md → D → Evn → Option Evn) : FS := fun env => (fe env).so fun d e => optS ((mdOf k e).bind fun md => g md d e)
theorem ds_asg {tg : Expr} {g : Md → D → Evn → Option Evn} (he : DE X W ε k e fe) (hg : DG X ms tg g) (hs : swapsWithSole [tg] e pos.line X.env = pure false := by rfl) (hw : swappedStores [tg] e X.env = pure none := by rfl) (h1' : (assignEach [tg] X.env).map (·.2) = [assign tg X.env] := by rfl) : DS X W ms (.Assign [tg] e pos) (fAsg k fe g) := by
  obtain ⟨t1, p1, s1⟩ := he.ex
  obtain ⟨t2, p2, s2⟩ := hg.ex
  refine ⟨_, ps_asg p1 p2 hs hw h1', fun Z F H env σ fp D_ hm r h => s1 Z F H env σ fp _ r (SPost.bind h fun d e1 h1 F1 H1 fp1 v fr ev r1 rp ko => ?_)⟩
  cases q : (mdOf k e1).bind fun md => g md d e1 with
  | none => rw [q] at h1; exact h1.elim
  | some e2 =>
    rw [q] at h1
    rw [Option.bind_eq_some_iff] at q
    obtain ⟨md, q1, q2⟩ := q
    exact s2 Z F H env fp F1 H1 e1 σ fp1 v d fr md _ hm (ev.mono (fun _ => rfl) fun z => by cases z) r1 rp (VMo.of_kd r ev r1 ko q1) ⟨e2, q2, fun σ' F' H' fp' _ ev' r' _ _ => h1 F' H' fp' σ' ev' r'⟩
theorem ds_set (i : Nat) {x : Str} {pos' : Pos} (hN : X.N.Nodup) (he : DE X W ε k e fe) (hm : i ∉ ms := by decide) (hi : X.N[i]? = some x := by rfl) (hx : Loc X.env.scope x := by first | exact Or.inl rfl | exact Or.inr rfl) (hs : swapsWith e (some (.Name x pos')) pos.line X.env = pure false := by rfl)
    (hf : X.fn x = true ∨ X.env.scope.names.lookup x = some .local := by first | exact .inl rfl | exact .inr rfl | assumption) : DS X W ms (.Assign [.Name x pos'] e pos) (fAsg k fe (gNm i)) := by
  obtain ⟨t1, p1, s1⟩ := he.ex
  refine ⟨_, ps_set hN hi hx p1 hs hf, fun Z F H env σ fp D_ hm' r h => s1 Z F H env σ fp _ r (SPost.bind h fun d e1 h1 F1 H1 fp1 v fr ev r1 rp ko => ?_)⟩
  cases q : (mdOf k e1).bind fun md => gNm i md d e1 with
  | none => rw [q] at h1; exact h1.elim
  | some e2 =>
    rw [q] at h1
    rw [Option.bind_eq_some_iff] at q
    obtain ⟨md, q1, q2⟩ := q
    exact gsim_name (b := true) hm Z F H env fp F1 H1 e1 σ fp1 v d fr md D_.nx hm' (ev.mono (fun _ => rfl) fun z => by cases z) r1 rp (VMo.of_kd r ev r1 ko q1) ⟨e2, q2, fun σ' F' H' fp' _ ev' r' _ _ => h1 F' H' fp' σ' ev' r'⟩
end
end DL
namespace DL
open PySem PySem.Spec L2
inductive Fo where
  | ret (d : D) (ms : List D) | exc (c : Str) (x : D) (ms : List D) | stuck
def MutA (kinds : List Bool) (frs : List (List Addr)) (a : Addr) : Prop := ∃ (i : Nat) (f : List Addr), kinds[i]? = some true ∧ frs[i]? = some f ∧ a ∈ f
structure ArgSep (F H : Hp) (kinds : List Bool) (frs : List (List Addr)) : Prop where
  apart : ∀ (i j : Nat) (fi fj : List Addr), i ≠ j → kinds[i]? = some true → frs[i]? = some fi → frs[j]? = some fj → ∀ a ∈ fi, a ∉ fj
  hF : ∀ (i : Nat) (fi : List Addr), kinds[i]? = some true → frs[i]? = some fi → ∀ a ∈ fi, F a = none
  nf : ∀ (i : Nat) (fi : List Addr), kinds[i]? = some true → frs[i]? = some fi → ∀ a ∈ fi, NF H a
structure FEv (F H : Hp) (M : Addr → Prop) (F' H' : Hp) : Prop where
  keep : ∀ a o, H a = some o → ¬ M a → H' a = some o
  sub : ∀ a u, F a = some u → F' a = some u
  new : ∀ a, F a = none → F' a ≠ none → H a = none ∨ M a
  dom : ∀ a, H a ≠ none → H' a ≠ none
  has : ∀ a u, F' a = some u → Has H' a u
  nofz : ∀ a o u, H' a = some (.frz o u) → H a = some (.frz o u)
def mvs {α : Type} : List Bool → List α → List α
  | true :: ks, v :: vs => v :: mvs ks vs
  | false :: ks, _ :: vs => mvs ks vs
  | _, _ => []
section
variable (K : PySem.W.Frag)
structure Muts (H : Hp) (M : Addr → Prop) (F' H' : Hp) (kinds : List Bool) (vs : List V) (ms : List D) (nfs : List (List Addr)) : Prop where
  rep : RepA K F' H' ms (mvs kinds vs) nfs
  apart : ∀ (i j : Nat) (fi fj : List Addr), i ≠ j → nfs[i]? = some fi → nfs[j]? = some fj → ∀ a ∈ fi, a ∉ fj
  own : ∀ f ∈ nfs, ∀ a ∈ f, (H a = none ∨ M a) ∧ F' a = none
def FPost (F H : Hp) (kinds : List Bool) (vs : List V) (M : Addr → Prop) (Q : VK) (E : XK) : Fo → Prop
  | .ret d ms => ∀ F' H' v fr nfs, FEv F H M F' H' → Rep K F' H' d v fr → Muts K H M F' H' kinds vs ms nfs → (∀ a ∈ fr, (H a = none ∨ M a) ∧ F' a = none ∧ ∀ f ∈ nfs, a ∉ f) → Q v H'
  | .exc c x ms => ∀ F' H' dx nfs, FEv F H M F' H' → Rep K F' H' x (.ref dx) [] → Muts K H M F' H' kinds vs ms nfs → E (.ref (He.ga K c)) (some dx) H'
  | .stuck => False
def spD (kinds : List Bool) (Fx : List D → Fo) : Sp := fun vs H Q E => ∃ (F : Hp) (ds : List D) (frs : List (List Addr)), (∀ a u, F a = some u → Has H a u) ∧ RepA K F H ds vs frs ∧ kinds.length = ds.length ∧ ArgSep F H kinds frs ∧
  FPost K F H kinds vs (MutA kinds frs) Q E (Fx ds)
end
def initE (kinds : List Bool) (ds : List D) (n : Nat) : Evn := (List.zipWith (fun (b : Bool) d => if b = true then Sl.own d else Sl.bor none d) kinds ds) ++ List.replicate (n - ds.length) .dead
def getMi : List Bool → Nat → Evn → Option (List D)
  | [], _, _ => some []
  | true :: ks, i, env => match env[i]? with
    | some (.own d) => (getMi ks (i + 1) env).map (d :: ·)
    | _ => none
  | false :: ks, i, env => getMi ks (i + 1) env
def optF (o : Option (List D)) (k : List D → Fo) : Fo := match o with
  | some ms => k ms
  | none => .stuck
@[simp] theorem optF_some (ms : List D) (k : List D → Fo) : optF (some ms) k = k ms := (rfl)
@[simp] theorem optF_none (k : List D → Fo) : optF none k = .stuck := (rfl)
def endF (kinds : List Bool) : So → Fo
  | .nxt e => optF (getMi kinds 0 e) (.ret .non)
  | .ret d e => optF (getMi kinds 0 e) (.ret d)
  | .exc c x e => optF (getMi kinds 0 e) (.exc c x)
  | _ => .stuck
def runF (kinds : List Bool) (n : Nat) (fb : FS) (ds : List D) : Fo := endF kinds (fb (initE kinds ds n))
def mutIx : List Bool → Nat → List Nat
  | [], _ => []
  | true :: ks, i => i :: mutIx ks (i + 1)
  | false :: ks, i => mutIx ks (i + 1)
theorem mem_mutIx : ∀ {ks : List Bool} {i j : Nat}, j ∈ mutIx ks i ↔ ∃ m, ks[m]? = some true ∧ j = i + m
  | [], i, j => by simp [mutIx]
  | true :: ks, i, j => by
    rw [mutIx, List.mem_cons, mem_mutIx]
    constructor
    · rintro (rfl | ⟨m, h1, h2⟩)
      · exact ⟨0, rfl, rfl⟩
      · exact ⟨m + 1, by simpa using h1, by omega⟩
    · rintro ⟨m, h1, h2⟩
      cases m with
      | zero => exact .inl (by omega)
      | succ m => exact .inr ⟨m, by simpa using h1, by omega⟩
  | false :: ks, i, j => by
    rw [mutIx, mem_mutIx]
    constructor
    · rintro ⟨m, h1, h2⟩
      exact ⟨m + 1, by simpa using h1, by omega⟩
    · rintro ⟨m, h1, h2⟩
      cases m with
      | zero => simp at h1
      | succ m => exact ⟨m, by simpa using h1, by omega⟩
theorem RepA.lens {K : PySem.W.Frag} {F H : Hp} : ∀ {ds : List D} {vs : List V} {frs : List (List Addr)}, RepA K F H ds vs frs → vs.length = ds.length ∧ frs.length = ds.length
  | [], vs, frs, h => by
    obtain ⟨rfl, rfl⟩ := h.inv0
    exact ⟨rfl, rfl⟩
  | d :: ds, vs, frs, h => by
    obtain ⟨v, ws, f, fs, rfl, rfl, h1, h2⟩ := h.inv
    obtain ⟨a, b⟩ := RepA.lens h2
    exact ⟨by rw [List.length_cons, List.length_cons, a], by rw [List.length_cons, List.length_cons, b]⟩
theorem RepA.get {K : PySem.W.Frag} {F H : Hp} : ∀ {ds : List D} {vs : List V} {frs : List (List Addr)} {i : Nat} {d : D}, RepA K F H ds vs frs → ds[i]? = some d → ∃ v f, vs[i]? = some v ∧ frs[i]? = some f ∧ Rep K F H d v f
  | [], vs, frs, i, d, h, e => by simp at e
  | d' :: ds, vs, frs, 0, d, h, e => by
    obtain ⟨v, ws, f, fs, rfl, rfl, h1, h2⟩ := h.inv
    simp at e
    subst e
    exact ⟨v, f, rfl, rfl, h1⟩
  | d' :: ds, vs, frs, i + 1, d, h, e => by
    obtain ⟨v, ws, f, fs, rfl, rfl, h1, h2⟩ := h.inv
    obtain ⟨v', f', e1, e2, e3⟩ := RepA.get (i := i) h2 (by simpa using e)
    exact ⟨v', f', by simpa using e1, by simpa using e2, e3⟩
theorem initE_get {kinds : List Bool} {ds : List D} {n i : Nat} (hl : kinds.length = ds.length) : (initE kinds ds n)[i]? = if i < ds.length then (match kinds[i]?, ds[i]? with
    | some b, some d => some (if b = true then Sl.own d else .bor none d)
    | _, _ => none) else if i < ds.length + (n - ds.length) then some .dead else none := by
  unfold initE
  have hz : (List.zipWith (fun (b : Bool) d => if b = true then Sl.own d else Sl.bor none d) kinds ds).length = ds.length := by rw [List.length_zipWith, hl]; simp
  by_cases h : i < ds.length
  · rw [if_pos h, List.getElem?_append_left (by rw [hz]; exact h), List.getElem?_zipWith]
    cases kinds[i]? <;> cases ds[i]? <;> rfl
  · rw [if_neg h, List.getElem?_append_right (by rw [hz]; omega), hz, List.getElem?_replicate]
    by_cases h2 : i < ds.length + (n - ds.length)
    · rw [if_pos h2, if_pos (by omega)]
    · rw [if_neg h2, if_neg (by omega)]
section
variable {K : PySem.W.Frag}
def fp0 (frs : List (List Addr)) : Fp := fun i => frs.getD i []
def Z0 (n : Nat) (H : Hp) (kinds : List Bool) (frs : List (List Addr)) (vs : List V) : Zst where
  B := fun a => (∃ (i : Nat) (f : List Addr), kinds[i]? = some false ∧ frs[i]? = some f ∧ a ∈ f) ∨ ∃ o u, H a = some (.frz o u)
  pins := (mutIx kinds 0).filterMap fun i => (vs[i]?).map fun v => (i, some v)
  n := n
  gh := []
theorem Z0_pins {n : Nat} {H : Hp} {kinds : List Bool} {frs : List (List Addr)} {vs : List V} {p : Nat × Option V} (h : p ∈ (Z0 n H kinds frs vs).pins) : kinds[p.1]? = some true ∧ ∃ v, vs[p.1]? = some v ∧ p.2 = some v := by
  obtain ⟨i, h1, h2⟩ := List.mem_filterMap.mp h
  rw [Option.map_eq_some_iff] at h2
  obtain ⟨v, h3, rfl⟩ := h2
  obtain ⟨m, h4, h5⟩ := mem_mutIx.mp h1
  have e : i = m := by omega
  subst e
  exact ⟨h4, v, h3, rfl⟩
theorem start_get {N : List Str} {vs : List V} {i : Nat} {v : V} (h : vs[i]? = some v) : (L2.start N vs)[i]? = some (some v) := by
  unfold L2.start
  have hi := (List.getElem?_eq_some_iff.mp h).1
  rw [List.getElem?_append_left (by rw [List.length_map]; exact hi), List.getElem?_map, h]
  rfl
theorem R.init {F H : Hp} {kinds : List Bool} {ds : List D} {vs : List V} {frs : List (List Addr)} {N : List Str} (hs : ∀ a u, F a = some u → Has H a u) (rep : RepA K F H ds vs frs) (hl : kinds.length = ds.length) (sep : ArgSep F H kinds frs) (hN : ds.length ≤ N.length) :
    R K (Z0 N.length H kinds frs vs) F H (initE kinds ds N.length) (L2.start N vs) (fp0 frs) := by
  obtain ⟨l1, l2⟩ := rep.lens
  have own_of : ∀ {i : Nat}, hold (initE kinds ds N.length) i → ∃ f : List Addr, kinds[i]? = some true ∧ frs[i]? = some f ∧ fp0 frs i = f := by
    intro i h
    have key : ∀ s, (initE kinds ds N.length)[i]? = some s → (∃ d, s = Sl.own d ∨ s = .bor (some i) d) → ∃ f : List Addr, kinds[i]? = some true ∧ frs[i]? = some f ∧ fp0 frs i = f := by
      intro s e ⟨d, hd⟩
      rw [initE_get hl] at e
      split at e
      · rename_i hi
        have hk : i < kinds.length := by omega
        have hf : i < frs.length := by omega
        rw [List.getElem?_eq_getElem hk, List.getElem?_eq_getElem hi] at e
        cases q : kinds[i] with
        | true => exact ⟨frs[i], by rw [List.getElem?_eq_getElem hk, q], List.getElem?_eq_getElem hf, by unfold fp0; simp [hf]⟩
        | false =>
          simp only [q] at e
          cases e
          rcases hd with hd | hd <;> cases hd
      · split at e
        · cases e
          rcases hd with hd | hd <;> cases hd
        · cases e
    rcases h with ⟨d, e⟩ | ⟨d, e⟩
    · exact key _ e ⟨d, .inl rfl⟩
    · exact key _ e ⟨d, .inr rfl⟩
  refine ⟨hs, fun i => ?_, fun i j hij hi hj a ha => ?_, fun i hi a ha hB => ?_, fun i hi a ha => ?_, fun a hB => ?_, fun p hp => ?_, (fun p hp => by cases hp), ?_, fun i hi a ha => ?_⟩
  · unfold SlotR
    rw [initE_get hl]
    by_cases hi : i < ds.length
    · have hk : i < kinds.length := by omega
      rw [if_pos hi, List.getElem?_eq_getElem hk, List.getElem?_eq_getElem hi]
      obtain ⟨v, f, e1, e2, e3⟩ := rep.get (i := i) (List.getElem?_eq_getElem hi)
      have z : fp0 frs i = f := by unfold fp0; rw [List.getD_eq_getElem?_getD, e2]; rfl
      cases q : kinds[i] with
      | true => exact ⟨v, start_get e1, by rw [z]; exact e3⟩
      | false => exact ⟨v, start_get e1, by rw [z]; exact e3, fun a ha => .inl ⟨i, f, by rw [List.getElem?_eq_getElem hk, q], e2, by rw [← z]; exact ha⟩⟩
    · rw [if_neg hi]
      by_cases h2 : i < ds.length + (N.length - ds.length)
      · rw [if_pos h2]; trivial
      · rw [if_neg h2]; trivial
  · obtain ⟨fi, k1, e1, z1⟩ := own_of hi
    obtain ⟨fj, k2, e2, z2⟩ := own_of hj
    rw [z1] at ha
    rw [z2]
    exact sep.apart i j fi fj hij k1 e1 e2 a ha
  · obtain ⟨fi, k1, e1, z1⟩ := own_of hi
    rw [z1] at ha
    rcases hB with ⟨j, f, k2, e2, hm⟩ | ⟨o, u, hz⟩
    case inr => exact sep.nf i fi k1 e1 a ha o u hz
    have ne : i ≠ j := fun z => by
      subst z
      rw [k1] at k2
      cases k2
    exact sep.apart i j fi f ne k1 e1 e2 a ha hm
  · obtain ⟨fi, k1, e1, z1⟩ := own_of hi
    rw [z1] at ha
    exact sep.hF i fi k1 e1 a ha
  · rcases hB with ⟨j, f, k2, e2, hm⟩ | ⟨o, u, hz⟩
    case inr => rw [hz]; exact fun z => by cases z
    have hj : j < ds.length := by
      have := (List.getElem?_eq_some_iff.mp k2).1
      omega
    obtain ⟨v, f', e3, e4, e5⟩ := rep.get (i := j) (List.getElem?_eq_getElem hj)
    rw [e2] at e4
    cases e4
    exact Rep.dom _ _ _ e5 a hm
  · obtain ⟨h1, v, h2, h3⟩ := Z0_pins hp
    rw [h3]
    exact start_get h2
  · unfold L2.start initE
    rw [List.length_append, List.length_append, List.length_map, List.length_replicate, List.length_replicate, List.length_zipWith, hl, l1]
    refine ⟨?_, ?_⟩
    · show ds.length + (N.length - ds.length) = N.length
      omega
    · show min ds.length ds.length + (N.length - ds.length) = N.length
      omega
  · obtain ⟨fi, k1, e1, z1⟩ := own_of (.inl hi)
    rw [z1] at ha
    exact sep.nf i fi k1 e1 a ha
theorem getMi_get : ∀ {ks : List Bool} {i : Nat} {env : Evn} {ms : List D} {vs : List V}, getMi ks i env = some ms → ks.length = vs.length → ∀ {F H : Hp} {fp : Fp} {σ : L2.St} {Z : Zst}, R K Z F H env σ fp → (∀ (m : Nat) (v : V), ks[m]? = some true → vs[m]? = some v → σ[i + m]? = some (some v)) →
    ∃ nfs, RepA K F H ms (mvs ks vs) nfs ∧ nfs = (mutIx ks i).map fp ∧ ∀ j ∈ mutIx ks i, isOwn env j
  | [], i, env, ms, [], h, _, F, H, fp, σ, Z, r, hσ => by
    cases h
    exact ⟨[], trivial, rfl, fun j hj => by cases hj⟩
  | [], _, _, _, _ :: _, _, l, _, _, _, _, _, _, _ => by simp at l
  | _ :: _, _, _, _, [], _, l, _, _, _, _, _, _, _ => by simp at l
  | true :: ks, i, env, ms, v :: vs, h, l, F, H, fp, σ, Z, r, hσ => by
    unfold getMi at h
    cases q : env[i]? with
    | none => rw [q] at h; cases h
    | some t =>
      rw [q] at h
      cases t with
      | own d =>
        have h' : (getMi ks (i + 1) env).map (d :: ·) = some ms := h
        rw [Option.map_eq_some_iff] at h'
        obtain ⟨ms', h1, rfl⟩ := h'
        obtain ⟨nfs, e1, e2, e3⟩ := getMi_get (vs := vs) h1 (by simpa using l) r (fun m v hk hv => by
          have z := hσ (m + 1) v (by simpa using hk) (by simpa using hv)
          rw [show i + 1 + m = i + (m + 1) by omega]
          exact z)
        have s := r.slot i
        unfold SlotR at s
        rw [q] at s
        obtain ⟨v', s1, s2⟩ := s
        have z := hσ 0 v rfl rfl
        rw [Nat.add_zero, s1] at z
        cases z
        refine ⟨fp i :: nfs, ⟨s2, e1⟩, by rw [mutIx, List.map_cons, e2], fun j hj => ?_⟩
        rw [mutIx, List.mem_cons] at hj
        rcases hj with rfl | hj
        · exact ⟨d, q⟩
        · exact e3 j hj
      | dead => cases h
      | bor _ _ => cases h
  | false :: ks, i, env, ms, v :: vs, h, l, F, H, fp, σ, Z, r, hσ => by
    unfold getMi at h
    exact getMi_get (vs := vs) h (by simpa using l) r (fun m v hk hv => by
      have z := hσ (m + 1) v (by simpa using hk) (by simpa using hv)
      rw [show i + 1 + m = i + (m + 1) by omega]
      exact z)
theorem mutIx_nodup : ∀ (ks : List Bool) (i : Nat), (mutIx ks i).Nodup
  | [], _ => List.nodup_nil
  | true :: ks, i => by
    rw [mutIx, List.nodup_cons]
    refine ⟨fun h => ?_, mutIx_nodup ks (i + 1)⟩
    obtain ⟨m, _, e⟩ := mem_mutIx.mp h
    omega
  | false :: ks, i => by rw [mutIx]; exact mutIx_nodup ks (i + 1)
theorem own_init {kinds : List Bool} {ds : List D} {frs : List (List Addr)} {n : Nat} (hl : kinds.length = ds.length) (l2 : frs.length = ds.length) {a : Addr} (h : OwnA (initE kinds ds n) (fp0 frs) a) : MutA kinds frs a := by
  obtain ⟨i, ⟨d, e⟩, ha⟩ := h
  rw [initE_get hl] at e
  split at e
  · rename_i hi
    have hk : i < kinds.length := by omega
    have hf : i < frs.length := by omega
    rw [List.getElem?_eq_getElem hk, List.getElem?_eq_getElem hi] at e
    cases q : kinds[i] with
    | true => exact ⟨i, frs[i], by rw [List.getElem?_eq_getElem hk, q], List.getElem?_eq_getElem hf, by unfold fp0 at ha; simpa [hf] using ha⟩
    | false =>
      simp only [q] at e
      cases e
  · split at e <;> cases e
theorem muts_of {F H F' H' : Hp} {kinds : List Bool} {ds ms : List D} {vs : List V} {frs : List (List Addr)} {N : List Str} {env' : Evn} {σ' : L2.St} {fp' : Fp} (rep : RepA K F H ds vs frs) (hl : kinds.length = ds.length) (ev : Ev true F H (initE kinds ds N.length) (fp0 frs) F' H' env' fp')
    (r' : R K (Z0 N.length H kinds frs vs) F' H' env' σ' fp') (h : getMi kinds 0 env' = some ms) : ∃ nfs, FEv F H (MutA kinds frs) F' H' ∧ Muts K H (MutA kinds frs) F' H' kinds vs ms nfs ∧ ∀ f ∈ nfs, ∀ a ∈ f, OwnA env' fp' a := by
  obtain ⟨l1, l2⟩ := rep.lens
  have own_of : ∀ {a}, OwnA env' fp' a → H a = none ∨ MutA kinds frs a := fun h => (ev.own _ h).imp id (own_init hl l2)
  obtain ⟨nfs, e1, e2, e3⟩ := getMi_get (vs := vs) h (by rw [hl, l1]) r' (fun m v hk hv => by
    rw [Nat.zero_add]
    refine r'.pin (m, v) (List.mem_filterMap.mpr ⟨m, mem_mutIx.mpr ⟨m, hk, by omega⟩, ?_⟩)
    rw [hv]
    rfl)
  have hmem : ∀ f ∈ nfs, ∃ j ∈ mutIx kinds 0, f = fp' j := fun f hf => by
    rw [e2] at hf
    obtain ⟨j, hj, e⟩ := List.mem_map.mp hf
    exact ⟨j, hj, e.symm⟩
  have hown : ∀ f ∈ nfs, ∀ a ∈ f, OwnA env' fp' a := fun f hf a ha => by
    obtain ⟨j, hj, rfl⟩ := hmem f hf
    exact ⟨j, e3 j hj, ha⟩
  refine ⟨nfs, ⟨fun a o ho hm => ev.keep a o ho fun _ z => hm (own_init hl l2 z), ev.sub, fun a h1 h2 => (ev.new a h1 h2).imp id fun z => own_init hl l2 z.2, ev.dom, r'.sub, ev.nofz⟩, ⟨e1, fun i j fi fj hij hi hj a ha hm => ?_, fun f hf a ha => ⟨own_of (hown f hf a ha), r'.own_F (hown f hf a ha)⟩⟩, hown⟩
  rw [e2] at hi hj
  rw [List.getElem?_map, Option.map_eq_some_iff] at hi hj
  obtain ⟨x, x1, rfl⟩ := hi
  obtain ⟨y, y1, rfl⟩ := hj
  have ne : x ≠ y := fun z => by
    subst z
    exact hij (nd_ix (mutIx_nodup kinds 0) x1 y1)
  exact r'.sep x y ne (.inl (e3 x (List.mem_of_getElem? x1))) (.inl (e3 y (List.mem_of_getElem? y1))) a ha hm
theorem sim_body {t : TS} {W : WX} {kinds : List Bool} {fb : FS} {N : List Str} {vs : List V} {H : Hp} {Q : VK} {E : XK} (s : SSim K W (mutIx kinds 0) t fb) (hW : ∀ cls d σ H, E cls d H → W cls d σ H) (hN : kinds.length ≤ N.length) (h : spD K kinds (runF kinds N.length fb) vs H Q E) :
    t { nx := fun _ H' => Q .non H', rt := Q } (L2.start N vs) H := by
  obtain ⟨F, ds, frs, hs, rep, hl, sep, hq⟩ := h
  obtain ⟨l1, l2⟩ := rep.lens
  refine s (Z0 N.length H kinds frs vs) F H (initE kinds ds N.length) (L2.start N vs) (fp0 frs) _ (fun p hp => ?_) (R.init hs rep hl sep (by omega)) ?_
  · obtain ⟨h1, h2⟩ := Z0_pins hp
    exact mem_mutIx.mpr ⟨p.1, h1, by omega⟩
  · unfold runF at hq
    cases q : fb (initE kinds ds N.length) with
    | nxt e =>
      rw [q] at hq
      intro F' H' fp' σ' ev r'
      cases qm : getMi kinds 0 e with
      | none =>
        simp only [endF, qm] at hq
        exact hq.elim
      | some ms =>
        simp only [endF, qm] at hq
        obtain ⟨nfs, m1, m2, m3⟩ := muts_of rep hl ev r' qm
        exact hq F' H' .non [] nfs m1 (.plain rfl) m2 fun a ha => by cases ha
    | ret d e =>
      rw [q] at hq
      intro F' H' fp' σ' v fr ev r' rp ko
      cases qm : getMi kinds 0 e with
      | none =>
        simp only [endF, qm] at hq
        exact hq.elim
      | some ms =>
        simp only [endF, qm] at hq
        obtain ⟨nfs, m1, m2, m3⟩ := muts_of rep hl ev r' qm
        refine hq F' H' v fr nfs m1 rp m2 fun a ha => ?_
        obtain ⟨k1, k2, k3⟩ := ko a ha
        exact ⟨k1.imp id (own_init hl l2), k3, fun f hf hm => k2 (m3 f hf a hm)⟩
    | exc c x e =>
      rw [q] at hq
      intro F' H' fp' σ' dx ev r' rp
      cases qm : getMi kinds 0 e with
      | none =>
        simp only [endF, qm] at hq
        exact hq.elim
      | some ms =>
        simp only [endF, qm] at hq
        obtain ⟨nfs, m1, m2, m3⟩ := muts_of rep hl ev r' qm
        exact hW _ _ _ _ (hq F' H' dx nfs m1 rp m2)
    | brk e => rw [q] at hq; exact hq.elim
    | cnt e => rw [q] at hq; exact hq.elim
    | stuck => rw [q] at hq; exact hq.elim
end
end DL
namespace DL
open PySem PySem.Spec L2
abbrev TAK := L2.St → Hp → (List V → List V → Hp → Prop) → Prop
structure PArgs (X : Cx) (es : List Expr) (kws : List Keyword) (ks : List Str) (t : TAK) : Prop where
  run : ∀ (pos : Pos) (f : Addr) (us0 : List Value) (pins : List (Addr × Obj)) (s : Shared) (σ : L2.St) (H : Hp) (Q : Value → Shared → Prop), PySem.W.keepIn X.K (.ref f) = true → Inv X pins σ H s →
    ∀ G : List V → List V → Hp → Prop, t σ H G → (∀ vs zs H' s' us ws, Inv X pins σ H' s' → Vals vs us → Vals zs ws → G vs zs H' → wpAny (model X.prog X.w) X.A (call (.ref f) (us0 ++ us) (ks.zip ws)) Q X.xe s') →
    wpAny (model X.prog X.w) X.A (callWith pos (.ref f) us0 (backTo pos (starEach es X.env)) (backToKw pos (keywordEach kws X.env))) Q X.xe s
section
variable {X : Cx} {W : WX} {e : Expr} {es : List Expr} {kws : List Keyword} {ks : List Str} {ta tk : TA} {p pos apos : Pos}
theorem pargs_nil : PArgs X [] [] [] (fun σ H G => G [] [] H) := ⟨fun pos f us0 pins s σ H Q hk I G h c => PySem.W.callWith_K0 (first := us0) I.kIn hk (c [] [] H s [] [] I .nil .nil h)⟩
theorem pargs_pos (ha : PA X (e :: es) ta) (he : starEach (e :: es) X.env = (false, eval e X.env) :: starEach es X.env := by rfl) (hpl : ∀ pos, (backTo pos (starEach es X.env)).any (·.1) = false := by exact fun _ => rfl) :
    PArgs X (e :: es) [] [] (fun σ H G => ta σ H fun vs H1 => G vs [] H1) :=
  ⟨fun pos f us0 pins s σ H Q hk I G h c => PySem.W.callWith_K (first := us0) (h₀ := X.base) I.ok.mod.kin hk (thn (ha.run pos pins s σ H _ I h) fun us s1 ⟨vs, H1, I1, r, q⟩ => ⟨I1.kIn, c vs [] H1 s1 us [] I1 r .nil q⟩) he (hpl pos)⟩
theorem pargs_kw (hkw : PK X kws tk) (hall : ∀ pos, (backToKw pos (keywordEach kws X.env)).all (·.1.isSome) = true := by exact fun _ => rfl) (hks : ∀ pos, (backToKw pos (keywordEach kws X.env)).filterMap (·.1) = ks := by exact fun _ => rfl)
    (hpl : ∀ pos, ((backTo pos (starEach [] X.env)).any (·.1) || (backToKw pos (keywordEach kws X.env)).any (·.1.isNone)) = false := by exact fun _ => rfl) : PArgs X [] kws ks (fun σ H G => tk σ H fun zs H1 => G [] zs H1) :=
  ⟨fun pos f us0 pins s σ H Q hk I G h c => PySem.W.callWith_KW0 (first := us0) (h₀ := X.base) I.ok.mod.kin hk (hall pos) (thn (hkw.run pos pins s σ H _ I h) fun ws s1 ⟨zs, H1, I1, r, q⟩ => ⟨I1.kIn, by rw [hks]; exact c [] zs H1 s1 [] ws I1 .nil r q⟩) (hpl pos)⟩
theorem pargs_both (ha : PA X (e :: es) ta) (hkw : PK X kws tk) (hall : ∀ pos, (backToKw pos (keywordEach kws X.env)).all (·.1.isSome) = true := by exact fun _ => rfl) (hks : ∀ pos, (backToKw pos (keywordEach kws X.env)).filterMap (·.1) = ks := by exact fun _ => rfl)
    (he : starEach (e :: es) X.env = (false, eval e X.env) :: starEach es X.env := by rfl) (hpl : ∀ pos, ((backTo pos (starEach (e :: es) X.env)).any (·.1) || (backToKw pos (keywordEach kws X.env)).any (·.1.isNone)) = false := by exact fun _ => rfl) :
    PArgs X (e :: es) kws ks (fun σ H G => ta σ H fun vs H1 => tk σ H1 fun zs H2 => G vs zs H2) :=
  ⟨fun pos f us0 pins s σ H Q hk I G h c => PySem.W.callWith_KW (first := us0) (h₀ := X.base) I.ok.mod.kin hk (hall pos) (thn (ha.run pos pins s σ H _ I h) fun us s1 ⟨vs, H1, I1, r, q⟩ =>
    thn (hkw.run pos pins s1 σ H1 _ I1 q) fun ws s2 ⟨zs, H2, I2, rz, q2⟩ => ⟨I2.kIn, by rw [hks]; exact c vs zs H2 s2 us ws I2 r rz q2⟩) (hpl pos) he⟩
variable {k n : Nat} {f C : Addr} {fd : FuncData} {ps : List Str} {sp : Sp} {g : List Value → List Value → List Value} {gV : List V → List V → List V} {t : TAK} {x m : Str} {o : Expr} {te : TE}
theorem run_fnX {pins : List (Addr × Obj)} {σ : L2.St} {H : Hp} {s : Shared} {Q : VK} {us ws : List Value} {vs zs : List V} (F : FnOk X.prog X.w X.K X.mg X.base (L2.CX X.prog X.w) k f fd ps sp) (hr : Room k X.A) (hb : KBn X.K fd ps n ks g gV) (tk : Takes X W)
    (I : Inv X pins σ H s) (r : Vals vs us) (rz : Vals zs ws) (l1 : vs.length = n) (l2 : zs.length = ks.length) (h : sp (gV vs zs) H Q (WE W σ)) : wpAny (model X.prog X.w) X.A (call (.ref f) us (ks.zip ws)) (EP X pins σ Q) X.xe s := by
  have r2 := hb.rel r rz
  refine wpAny_call (codeAny_mono (F.run X.A X.stack s H ⟨us, ks.zip ws⟩ (g us ws) (gV vs zs) Q (WE W σ) hr I.env0 (hb.to s us ws I.kIn (r.length.symm.trans l1) (rz.length.symm.trans l2)) r2 h) fun r s' hq => ?_)
  cases r with
  | error e => exact passAt tk σ pins H s e s' I hq
  | ok fl =>
    cases fl with
    | ret u => exact I.after hq
    | next => exact False.elim hq
    | brk => exact False.elim hq
    | cont => exact False.elim hq
def tCl (n : Nat) (ks : List Str) (sp : Sp) (gV : List V → List V → List V) (W : WX) (t : TAK) : TE := fun σ H Q => t σ H fun vs zs H1 => vs.length = n ∧ zs.length = ks.length ∧ sp (gV vs zs) H1 Q (WE W σ)
theorem pe_cl (F : FnOk X.prog X.w X.K X.mg X.base (L2.CX X.prog X.w) k f fd ps sp) (hr : Room k X.A) (hg : Gl X x) (hm : X.mg x = some (.ref f)) (hk : PySem.W.keepIn X.K (.ref f) = true) (hb : KBn X.K fd ps n ks g gV) (tk : Takes X W) (ha : PArgs X es kws ks t)
    (hdb : (x == ("__debug__" : Str)) = false := by decide) : PE X (.Call (.Name x p) es kws pos) (tCl n ks sp gV W t) := by
  refine ⟨fun pins s σ H Q I h => ?_⟩
  refine wpAny_Call_Name_kw (ld_glob I hg hm ?_ hdb)
  exact ha.run pos f [] pins s σ H _ hk I _ h fun vs zs H1 s' us ws I' r rz ⟨l1, l2, q⟩ => run_fnX F hr hb tk I' r rz l1 l2 q
def tMt (C : Addr) (m : Str) (n : Nat) (ks : List Str) (sp : Sp) (gV : List V → List V → List V) (W : WX) (te : TE) (t : TAK) : TE := fun σ H Q => te σ H fun x H0 => ∃ a dx fs, x = .ref a ∧ H0 a = some (.ins C dx fs) ∧ fs.lookup m = none ∧
  t σ H0 fun vs zs H1 => (x :: vs).length = n ∧ zs.length = ks.length ∧ sp (gV (x :: vs) zs) H1 Q (WE W σ)
theorem pe_mt {pl : Sem Bool} (he : PE X o te) (c : Cls X.K C) (hm : Meth X.K C m f) (F : FnOk X.prog X.w X.K X.mg X.base (L2.CX X.prog X.w) k f fd ps sp) (hr : Room k X.A) (hb : KBn X.K fd ps n ks g gV) (tk : Takes X W) (ha : PArgs X es kws ks t)
    (ht : eval (.Call (.Attribute o m apos) es kws pos) X.env = (do
      let ov ← eval o X.env
      standAt apos.atName
      let (f, first) ← holding [ov] (getMethod ov m pl)
      callWith pos f first (backTo pos (starEach es X.env)) (backToKw pos (keywordEach kws X.env))) := by rfl) : PE X (.Call (.Attribute o m apos) es kws pos) (tMt C m n ks sp gV W te t) := by
  refine ⟨fun pins s σ H Q I h => ?_⟩
  refine PySem.W.methodCall_KW (pl := pl) (thn (he.run pins s σ H _ I h) fun u s1 ⟨x, H1, I1, rx, a, dx, fs, ex, ea, l, q⟩ => ?_) ht
  subst ex
  obtain rfl : u = Value.ref a := rx
  refine getmeth_ok I1 ea c hm l ?_
  exact ha.run pos f [.ref a] pins s1 σ H1 _ hm.kp I1 _ q fun vs zs H1 s' us ws I' r rz ⟨l1, l2, q⟩ => run_fnX F hr hb tk I' (.cons (show RelV (.ref a) (Value.ref a) from rfl) r) rz l1 l2 q
def tMkX (C : Addr) (n : Nat) (ks : List Str) (sp : Sp) (gV : List V → List V → List V) (W : WX) (t : TAK) : TE := fun σ H Q => t σ H fun vs zs H2 => vs.length + 1 = n ∧ zs.length = ks.length ∧ ∀ x dx, H2 x = none → H2 dx = none → dx ≠ x →
  sp (gV (.ref x :: vs) zs) (upd (upd H2 dx (.own x)) x (.ins C dx [])) (fun v H3 => v = .non ∧ Q (.ref x) H3) (WE W σ)
theorem run_mkX {pins : List (Addr × Obj)} {σ : L2.St} {H : Hp} {s : Shared} {Q : VK} {us ws : List Value} {vs zs : List V} (M : Mk X.K C f) (F : FnOk X.prog X.w X.K X.mg X.base (L2.CX X.prog X.w) k f fd ps sp) (hr : Room (k + 1) X.A) (hb : KBn X.K fd ps n ks g gV) (tk : Takes X (fun cls d σ H => W cls d σ H))
    (I : Inv X pins σ H s) (r : Vals vs us) (rz : Vals zs ws) (l1 : vs.length + 1 = n) (l2 : zs.length = ks.length)
    (h : ∀ x dx, H x = none → H dx = none → dx ≠ x → sp (gV (.ref x :: vs) zs) (upd (upd H dx (.own x)) x (.ins C dx [])) (fun v H2 => v = .non ∧ Q (.ref x) H2) (WE W σ)) :
    wpAny (model X.prog X.w) X.A (call (.ref C) us (ks.zip ws)) (EP X pins σ Q) X.xe s := by
  have hq := h (s.heap.objs.size + 1) s.heap.objs.size (I.hok.fresh (Nat.le_succ _)) (I.hok.fresh (Nat.le_refl _)) (Nat.ne_of_lt (Nat.lt_succ_self _))
  have I2 := Inv.made (C := C) I
  have r1 : Vals (V.ref (s.heap.objs.size + 1) :: vs) (Value.ref (s.heap.objs.size + 1) :: us) := .cons rfl r
  have r2 := hb.rel r1 rz
  have n1 : (Value.ref (s.heap.objs.size + 1) :: us).length = n := by
    rw [List.length_cons, ← r.length, l1]
  refine wpAny_call (make_map (f := f) I.kIn M.makes M.init (beq_iff_eq.mp M.fn) (codeAny_mono (F.run _ X.stack _ _ ⟨Value.ref (s.heap.objs.size + 1) :: us, ks.zip ws⟩ (g (Value.ref (s.heap.objs.size + 1) :: us) ws) _ _ (WE W σ) (hr.make C us (ks.zip ws))
    (I2.env0.make C us (ks.zip ws)) (hb.to _ (Value.ref (s.heap.objs.size + 1) :: us) ws I2.kIn n1 (rz.length.symm.trans l2)) r2 hq) fun r s' hq' => ?_))
  cases r with
  | error e => exact passAt tk σ pins _ _ e s' I2 hq'
  | ok fl =>
    cases fl with
    | ret u =>
      obtain ⟨v, H', I3, rv, ev, q3⟩ := I2.after hq'
      subst ev
      exact ⟨rv, ⟨V.ref (s.heap.objs.size + 1), H', I3, rfl, q3⟩⟩
    | next => exact False.elim hq'
    | brk => exact False.elim hq'
    | cont => exact False.elim hq'
theorem pe_mkX (M : Mk X.K C f) (F : FnOk X.prog X.w X.K X.mg X.base (L2.CX X.prog X.w) k f fd ps sp) (hr : Room (k + 1) X.A) (hg : Gl X x) (hm : X.mg x = some (.ref C)) (hb : KBn X.K fd ps n ks g gV) (tk : Takes X W) (ha : PArgs X es kws ks t)
    (hdb : (x == ("__debug__" : Str)) = false := by decide) : PE X (.Call (.Name x p) es kws pos) (tMkX C n ks sp gV W t) := by
  refine ⟨fun pins s σ H Q I h => ?_⟩
  refine wpAny_Call_Name_kw (ld_glob I hg hm ?_ hdb)
  exact ha.run pos C [] pins s σ H _ M.kp I _ h fun vs zs H1 s' us ws I' r rz ⟨l1, l2, q⟩ => run_mkX (W := W) M F hr hb tk I' r rz l1 l2 q
end
inductive CK where
  | val (k : Kd) | slot (j : Nat)
def CArgs (K : PySem.W.Frag) (H0 : Hp) (env0 : Evn) (fp0 : Fp) (F H : Hp) (env : Evn) (fp : Fp) (σ : L2.St) : List CK → List D → List V → List (List Addr) → Prop
  | [], [], [], [] => True
  | .val k :: cs, d :: ds, v :: vs, f :: fs => Rep K F H d v f ∧ KOk k H0 env0 fp0 F env fp f ∧ (k = .own → ∀ (i : Nat) (g : List Addr), cs[i]? = some (CK.val .own) → fs[i]? = some g → ∀ a ∈ f, a ∉ g) ∧ CArgs K H0 env0 fp0 F H env fp σ cs ds vs fs
  | .slot j :: cs, d :: ds, v :: vs, f :: fs => σ[j]? = some (some v) ∧ f = [] ∧ CArgs K H0 env0 fp0 F H env fp σ cs ds vs fs
  | _, _, _, _ => False
def CSim (K : PySem.W.Frag) (W : WX) (ε : Bool) (cs : List CK) (t : TA) (f : FA) : Prop := ∀ Z F H env σ fp Q, R K Z F H env σ fp →
  Post K W ε Z F H env σ fp (fun ds env' => ∀ F' H' fp' vs frs, Ev ε F H env fp F' H' env' fp' → R K Z F' H' env' σ fp' → CArgs K H env fp F' H' env' fp' σ cs ds vs frs → Q vs H') (f env) → t σ H Q
def CK.prot : CK → Bool
  | .val (.bor _) => false
  | _ => true
section
variable {K : PySem.W.Frag} {W : WX} {ε ε1 ε2 : Bool} {F H F1 H1 F2 H2 F' H' F0 H0 : Hp} {env env1 env2 env' env0 : Evn} {fp fp1 fp2 fp' fp0 : Fp} {Z : Zst} {σ : L2.St} {k k1 k2 : Kd} {cs cs1 cs2 : List CK}
theorem CArgs.rel (e : Ev ε F0 H0 env0 fp0 F1 H1 env1 fp1) : ∀ {cs : List CK} {ds : List D} {vs : List V} {frs : List (List Addr)}, CArgs K H1 env1 fp1 F H env fp σ cs ds vs frs → CArgs K H0 env0 fp0 F H env fp σ cs ds vs frs
  | [], [], [], [], _ => trivial
  | .val k :: cs, d :: ds, v :: vs, f :: fs, h => ⟨h.1, h.2.1.rel e, h.2.2.1, CArgs.rel e h.2.2.2⟩
  | .slot j :: cs, d :: ds, v :: vs, f :: fs, h => ⟨h.1, h.2.1, CArgs.rel e h.2.2⟩
  | [], _ :: _, _, _, h => h.elim
  | [], [], _ :: _, _, h => h.elim
  | [], [], [], _ :: _, h => h.elim
  | .val _ :: _, [], _, _, h => h.elim
  | .val _ :: _, _ :: _, [], _, h => h.elim
  | .val _ :: _, _ :: _, _ :: _, [], h => h.elim
  | .slot _ :: _, [], _, _, h => h.elim
  | .slot _ :: _, _ :: _, [], _, h => h.elim
  | .slot _ :: _, _ :: _, _ :: _, [], h => h.elim
theorem CArgs.ev (e : Ev ε F H env fp F1 H1 env1 fp1) : ∀ {cs : List CK} {ds : List D} {vs : List V} {frs : List (List Addr)}, (ε = true → cs.all CK.prot = true) → CArgs K H0 env0 fp0 F H env fp σ cs ds vs frs → CArgs K H0 env0 fp0 F1 H1 env1 fp1 σ cs ds vs frs
  | [], [], [], [], _, _ => trivial
  | .val k :: cs, d :: ds, v :: vs, f :: fs, p, h => by
    have hk := KOk.ev e h.1 (fun z j hj => by
      have q := p z
      rw [hj] at q
      simp [CK.prot] at q) h.2.1
    exact ⟨hk.1, hk.2, h.2.2.1, CArgs.ev e (fun z => by have q := p z; rw [List.all_cons, Bool.and_eq_true] at q; exact q.2) h.2.2.2⟩
  | .slot j :: cs, d :: ds, v :: vs, f :: fs, p, h => ⟨h.1, h.2.1, CArgs.ev e (fun z => by have q := p z; rw [List.all_cons, Bool.and_eq_true] at q; exact q.2) h.2.2⟩
  | [], _ :: _, _, _, _, h => h.elim
  | [], [], _ :: _, _, _, h => h.elim
  | [], [], [], _ :: _, _, h => h.elim
  | .val _ :: _, [], _, _, _, h => h.elim
  | .val _ :: _, _ :: _, [], _, _, h => h.elim
  | .val _ :: _, _ :: _, _ :: _, [], _, h => h.elim
  | .slot _ :: _, [], _, _, _, h => h.elim
  | .slot _ :: _, _ :: _, [], _, _, h => h.elim
  | .slot _ :: _, _ :: _, _ :: _, [], _, h => h.elim
theorem CArgs.own : ∀ {cs : List CK} {ds : List D} {vs : List V} {frs : List (List Addr)} {i : Nat} {g : List Addr}, CArgs K H0 env0 fp0 F H env fp σ cs ds vs frs → cs[i]? = some (CK.val .own) → frs[i]? = some g → KOk .own H0 env0 fp0 F env fp g
  | [], ds, vs, frs, i, g, _, h, _ => by simp at h
  | .val k :: cs, d :: ds, v :: vs, f :: fs, 0, g, h, h1, h2 => by
    simp at h1 h2
    subst h1 h2
    exact h.2.1
  | .slot j :: cs, d :: ds, v :: vs, f :: fs, 0, g, h, h1, h2 => by simp at h1
  | .val k :: cs, d :: ds, v :: vs, f :: fs, i + 1, g, h, h1, h2 => CArgs.own (cs := cs) (frs := fs) (i := i) h.2.2.2 (by simpa using h1) (by simpa using h2)
  | .slot j :: cs, d :: ds, v :: vs, f :: fs, i + 1, g, h, h1, h2 => CArgs.own (cs := cs) (frs := fs) (i := i) h.2.2 (by simpa using h1) (by simpa using h2)
  | .val _ :: _, [], _, _, _, _, h, _, _ => h.elim
  | .val _ :: _, _ :: _, [], _, _, _, h, _, _ => h.elim
  | .val _ :: _, _ :: _, _ :: _, [], _, _, h, _, _ => h.elim
  | .slot _ :: _, [], _, _, _, _, h, _, _ => h.elim
  | .slot _ :: _, _ :: _, [], _, _, _, h, _, _ => h.elim
  | .slot _ :: _, _ :: _, _ :: _, [], _, _, h, _, _ => h.elim
def fSlot (j : Nat) : FE := fun env => match env[j]? with
  | some (.own _) => .ok .non env
  | _ => .stuck
theorem csim_nil : CSim K W false [] tNil aNil := fun Z F H env σ fp Q r h => h F H fp [] [] (Ev.refl (Z := Z) _ rfl) r trivial
theorem csim_val {te : TE} {ta : TA} {f : FE} {g : FA} (he : ESim K W ε1 k1 te f) (ha : CSim K W ε2 cs ta g) (hp : ε2 = true → ∀ j, k1 ≠ .bor j := by first | exact fun h => (nomatch h) | exact fun _ j h => (nomatch h)) :
    CSim K W (ε1 || ε2) (.val k1 :: cs) (tCons te ta) (aCons f g) := by
  intro Z F H env σ fp Q r h
  refine he Z F H env σ fp _ r (Post.bind h orL orLF fun d env1 h1 F1 H1 fp1 v fr e1 r1 rep1 k1' => ?_)
  have h1' := Post.seq (a := d) e1 h1
  refine ha Z F1 H1 env1 σ fp1 _ r1 (Post.bind (ε := ε2) h1' id id fun ds env2 h2 F2 H2 fp2 vs frs e2 r2 rep2 => ?_)
  have hk := KOk.ev e2 rep1 hp k1'
  refine h2 F2 H2 fp2 (v :: vs) (fr :: frs) (e1.trans e2) r2 ⟨hk.1, hk.2, fun ko i gg hi hg a h3 h4 => ?_, rep2.rel e1⟩
  subst ko
  have q := CArgs.own rep2 hi hg a h4
  have nd := Rep.dom d v fr rep1 a h3
  rcases q.1 with z | z
  · exact nd z
  · exact (k1' a h3).2.1 z
theorem csim_slot {ta : TA} {g : FA} {j : Nat} (ha : CSim K W ε2 cs ta g) : CSim K W ε2 (.slot j :: cs) (tCons (tVar j) ta) (aCons (fSlot j) g) := by
  intro Z F H env σ fp Q r h
  have h' : Post K W ε2 Z F H env σ fp (fun ds env' => ∀ F' H' fp' vs frs, Ev ε2 F H env fp F' H' env' fp' → R K Z F' H' env' σ fp' → CArgs K H env fp F' H' env' fp' σ (.slot j :: cs) ds vs frs → Q vs H') ((fSlot j env).bind fun d e => (g e).map (d :: ·)) := h
  have s := r.slot j
  unfold SlotR at s
  unfold fSlot at h'
  cases q : env[j]? with
  | none => rw [q] at h'; exact h'.elim
  | some t =>
    rw [q] at h' s
    cases t with
    | own d =>
      obtain ⟨v, h1, h2⟩ := s
      refine ⟨v, h1, ha Z F H env σ fp _ r (Post.bind (ε := ε2) h' id id fun ds env2 h2 F2 H2 fp2 vs frs e2 r2 rep2 => ?_)⟩
      exact h2 F2 H2 fp2 (v :: vs) ([] :: frs) e2 r2 ⟨h1, rfl, rep2⟩
    | dead => exact h'.elim
    | bor _ _ => exact h'.elim
theorem CArgs.len : ∀ {cs : List CK} {ds : List D} {vs : List V} {frs : List (List Addr)}, CArgs K H0 env0 fp0 F H env fp σ cs ds vs frs → ds.length = cs.length ∧ vs.length = cs.length ∧ frs.length = cs.length
  | [], [], [], [], _ => ⟨rfl, rfl, rfl⟩
  | .val k :: cs, d :: ds, v :: vs, f :: fs, h => by
    obtain ⟨a, b, c⟩ := CArgs.len h.2.2.2
    exact ⟨congrArg Nat.succ a, congrArg Nat.succ b, congrArg Nat.succ c⟩
  | .slot j :: cs, d :: ds, v :: vs, f :: fs, h => by
    obtain ⟨a, b, c⟩ := CArgs.len h.2.2
    exact ⟨congrArg Nat.succ a, congrArg Nat.succ b, congrArg Nat.succ c⟩
  | [], _ :: _, _, _, h => h.elim
  | [], [], _ :: _, _, h => h.elim
  | [], [], [], _ :: _, h => h.elim
  | .val _ :: _, [], _, _, h => h.elim
  | .val _ :: _, _ :: _, [], _, h => h.elim
  | .val _ :: _, _ :: _, _ :: _, [], h => h.elim
  | .slot _ :: _, [], _, _, h => h.elim
  | .slot _ :: _, _ :: _, [], _, h => h.elim
  | .slot _ :: _, _ :: _, _ :: _, [], h => h.elim
theorem CArgs.append : ∀ {cs : List CK} {ds es : List D} {vs ws : List V} {frs grs : List (List Addr)}, CArgs K H0 env0 fp0 F H env fp σ cs ds vs frs → CArgs K H0 env0 fp0 F H env fp σ cs2 es ws grs →
    (∀ (i j : Nat) (f g : List Addr), cs[i]? = some (CK.val .own) → frs[i]? = some f → cs2[j]? = some (CK.val .own) → grs[j]? = some g → ∀ a ∈ f, a ∉ g) → CArgs K H0 env0 fp0 F H env fp σ (cs ++ cs2) (ds ++ es) (vs ++ ws) (frs ++ grs)
  | [], [], es, [], ws, [], grs, _, h, _ => h
  | .val k :: cs, d :: ds, es, v :: vs, ws, f :: fs, grs, h, h', n => by
    refine ⟨h.1, h.2.1, fun ko i g hi hg a ha => ?_, CArgs.append h.2.2.2 h' fun i j f g h1 h2 h3 h4 => n (i + 1) j f g (by simpa using h1) (by simpa using h2) h3 h4⟩
    obtain ⟨l1, l2, l3⟩ := CArgs.len h.2.2.2
    replace hi : (cs ++ cs2)[i]? = some (CK.val .own) := hi
    replace hg : (fs ++ grs)[i]? = some g := hg
    by_cases hl : i < cs.length
    · rw [List.getElem?_append_left hl] at hi
      rw [List.getElem?_append_left (by omega)] at hg
      exact h.2.2.1 ko i g hi hg a ha
    · rw [List.getElem?_append_right (by omega)] at hi hg
      rw [l3] at hg
      exact n 0 _ f g (by rw [ko]; rfl) rfl hi hg a ha
  | .slot j :: cs, d :: ds, es, v :: vs, ws, f :: fs, grs, h, h', n => ⟨h.1, h.2.1, CArgs.append h.2.2 h' fun i j f g h1 h2 h3 h4 => n (i + 1) j f g (by simpa using h1) (by simpa using h2) h3 h4⟩
  | [], _ :: _, _, _, _, _, _, h, _, _ => h.elim
  | [], [], _, _ :: _, _, _, _, h, _, _ => h.elim
  | [], [], _, [], _, _ :: _, _, h, _, _ => h.elim
  | .val _ :: _, [], _, _, _, _, _, h, _, _ => h.elim
  | .val _ :: _, _ :: _, _, [], _, _, _, h, _, _ => h.elim
  | .val _ :: _, _ :: _, _, _ :: _, _, [], _, h, _, _ => h.elim
  | .slot _ :: _, [], _, _, _, _, _, h, _, _ => h.elim
  | .slot _ :: _, _ :: _, _, [], _, _, _, h, _, _ => h.elim
  | .slot _ :: _, _ :: _, _, _ :: _, _, [], _, h, _, _ => h.elim
def aApp (f g : FA) : FA := fun env => (f env).bind fun ds e => (g e).map (ds ++ ·)
def KSim (K : PySem.W.Frag) (W : WX) (ε : Bool) (n : Nat) (cs : List CK) (t : TAK) (f : FA) : Prop := ∀ Z F H env σ fp (Q : List V → List V → Hp → Prop), R K Z F H env σ fp →
  Post K W ε Z F H env σ fp (fun ds env' => ∀ F' H' fp' vs zs frs, Ev ε F H env fp F' H' env' fp' → R K Z F' H' env' σ fp' → vs.length = n → CArgs K H env fp F' H' env' fp' σ cs ds (vs ++ zs) frs → Q vs zs H') (f env) → t σ H Q
theorem ksim_app {ta tk : TA} {f g : FA} (h1 : CSim K W ε1 cs1 ta f) (h2 : CSim K W ε2 cs2 tk g) (hp : ε2 = true → cs1.all CK.prot = true := by first | exact fun h => (nomatch h) | exact fun _ => rfl) :
    KSim K W (ε1 || ε2) cs1.length (cs1 ++ cs2) (fun σ H G => ta σ H fun vs H1 => tk σ H1 fun zs H2 => G vs zs H2) (aApp f g) := by
  intro Z F H env σ fp Q r h
  refine h1 Z F H env σ fp _ r (Post.bind h orL orLF fun ds env1 h3 F1 H1 fp1 vs frs e1 r1 c1 => ?_)
  have h1' := Post.seq (a := ds) e1 h3
  refine h2 Z F1 H1 env1 σ fp1 _ r1 (Post.bind (ε := ε2) h1' id id fun es env2 h4 F2 H2 fp2 ws grs e2 r2 c2 => ?_)
  have c1' := c1.ev e2 hp
  refine h4 F2 H2 fp2 vs ws (frs ++ grs) (e1.trans e2) r2 c1.len.2.1 (c1'.append (c2.rel e1) fun i j f g a1 a2 a3 a4 a b1 b2 => ?_)
  have q := CArgs.own c2 a3 a4 a b2
  have q1 := CArgs.own c1 a1 a2 a b1
  rcases q.1 with z | z
  · have nd : H1 a ≠ none := by
      have key : ∀ {cs : List CK} {ds : List D} {vs : List V} {frs : List (List Addr)} {i : Nat}, CArgs K H env fp F1 H1 env1 fp1 σ cs ds vs frs → frs[i]? = some f → H1 a ≠ none := by
        intro cs
        induction cs with
        | nil =>
          intro ds vs frs i h e
          cases ds <;> cases vs <;> cases frs <;> first | exact h.elim | simp at e
        | cons c cs ih =>
          intro ds vs frs i h e
          cases c with
          | val k =>
            cases ds <;> cases vs <;> cases frs <;> try exact h.elim
            cases i with
            | zero =>
              simp at e
              subst e
              exact Rep.dom _ _ _ h.1 a b1
            | succ i => exact ih h.2.2.2 (i := i) (by simpa using e)
          | slot j =>
            cases ds <;> cases vs <;> cases frs <;> try exact h.elim
            cases i with
            | zero =>
              simp at e
              subst e
              rw [h.2.1] at b1
              cases b1
            | succ i => exact ih h.2.2 (i := i) (by simpa using e)
      exact key c1 a2
    exact nd z
  · exact q1.2.1 z
theorem ksim_pos {ta : TA} {f : FA} (h1 : CSim K W ε1 cs1 ta f) : KSim K W ε1 cs1.length cs1 (fun σ H G => ta σ H fun vs H1 => G vs [] H1) f := by
  intro Z F H env σ fp Q r h
  refine h1 Z F H env σ fp _ r (h.imp fun ds env1 h3 F1 H1 fp1 vs frs e1 r1 c1 => h3 F1 H1 fp1 vs [] frs e1 r1 c1.len.2.1 (by rw [List.append_nil]; exact c1))
theorem ksim_nil : KSim K W false 0 [] (fun σ H G => G [] [] H) aNil := fun Z F H env σ fp Q r h => h F H fp [] [] [] (Ev.refl (Z := Z) _ rfl) r rfl trivial
theorem ksim_kw {tk : TA} {f : FA} (h1 : CSim K W ε1 cs1 tk f) : KSim K W ε1 0 cs1 (fun σ H G => tk σ H fun zs H1 => G [] zs H1) f := by
  intro Z F H env σ fp Q r h
  refine h1 Z F H env σ fp _ r (h.imp fun ds env1 h3 F1 H1 fp1 vs frs e1 r1 c1 => h3 F1 H1 fp1 [] vs frs e1 r1 rfl c1)
end
end DL
namespace DL
open PySem PySem.Spec L2
inductive Ar where
  | arg (i : Nat) | dfl (d : D)
def arV : List Ar → List V → List V
  | [], _ => []
  | .arg i :: r, xs => xs.getD i .non :: arV r xs
  | .dfl d :: r, xs => (plainV d).getD .non :: arV r xs
def fixA (cs : List CK) (ds : List D) (env : Evn) : List Bool → List Ar → Option (List D)
  | [], [] => some []
  | true :: ks, .arg i :: ar => match cs[i]? with
    | some (.slot j) => match env[j]? with
      | some (.own d) => (fixA cs ds env ks ar).map (d :: ·)
      | _ => none
    | _ => none
  | false :: ks, .arg i :: ar => match cs[i]? with
    | some (.val _) => match ds[i]? with
      | some d => (fixA cs ds env ks ar).map (d :: ·)
      | none => none
    | _ => none
  | false :: ks, .dfl d :: ar => if (plainV d).isSome = true then (fixA cs ds env ks ar).map (d :: ·) else none
  | _, _ => none
def jsOf (cs : List CK) : List Bool → List Ar → List Nat
  | true :: ks, .arg i :: ar => match cs[i]? with
    | some (.slot j) => j :: jsOf cs ks ar
    | _ => jsOf cs ks ar
  | _ :: ks, _ :: ar => jsOf cs ks ar
  | _, _ => []
def rootOk (env : Evn) (js : List Nat) (r : Nat) : Bool := match env[r]? with
  | some (.own _) => !js.contains r
  | some (.bor none _) => true
  | some (.bor (some m) _) => !js.contains m
  | _ => false
def rootsOk (cs : List CK) (js : List Nat) (env : Evn) : Bool := cs.all fun c => match c with
  | .val (.bor r) => rootOk env js r
  | _ => true
def frA (cs : List CK) (frs : List (List Addr)) (fp : Fp) : List Bool → List Ar → List (List Addr)
  | true :: ks, .arg i :: ar => (match cs[i]? with
    | some (.slot j) => fp j
    | _ => []) :: frA cs frs fp ks ar
  | false :: ks, .arg i :: ar => frs.getD i [] :: frA cs frs fp ks ar
  | _ :: ks, .dfl _ :: ar => [] :: frA cs frs fp ks ar
  | _, _ => []
def deadM : List Nat → Evn → Evn
  | [], env => env
  | j :: js, env => deadM js (putE j .dead env)
def putM : List Nat → List D → Evn → Evn
  | j :: js, m :: ms, env => putM js ms (putE j (.own m) env)
  | _, _, env => env
def backM (js : List Nat) (ms : List D) (env : Evn) : Evn := putM js ms (deadM js env)
section
variable {K : PySem.W.Frag} {W : WX} {ε ε1 ε2 : Bool} {F H F1 H1 F2 H2 F' H' F0 H0 : Hp} {env env1 env2 env' env0 : Evn} {fp fp1 fp2 fp' fp0 : Fp} {Z : Zst} {σ : L2.St} {k k1 k2 : Kd} {cs cs1 cs2 : List CK} {ds ms : List D} {vs : List V} {frs nfs : List (List Addr)}
theorem CArgs.get : ∀ {cs : List CK} {ds : List D} {vs : List V} {frs : List (List Addr)} {i : Nat} {c : CK}, CArgs K H0 env0 fp0 F H env fp σ cs ds vs frs → cs[i]? = some c →
    ∃ d v f, ds[i]? = some d ∧ vs[i]? = some v ∧ frs[i]? = some f ∧ match c with
      | .val k => Rep K F H d v f ∧ KOk k H0 env0 fp0 F env fp f
      | .slot j => σ[j]? = some (some v) ∧ f = []
  | [], _, _, _, i, c, _, h => by simp at h
  | .val k :: cs, d :: ds, v :: vs, f :: fs, 0, c, h, e => by
    simp at e
    subst e
    exact ⟨d, v, f, rfl, rfl, rfl, h.1, h.2.1⟩
  | .slot j :: cs, d :: ds, v :: vs, f :: fs, 0, c, h, e => by
    simp at e
    subst e
    exact ⟨d, v, f, rfl, rfl, rfl, h.1, h.2.1⟩
  | .val k :: cs, d :: ds, v :: vs, f :: fs, i + 1, c, h, e => CArgs.get (i := i) h.2.2.2 (by simpa using e)
  | .slot j :: cs, d :: ds, v :: vs, f :: fs, i + 1, c, h, e => CArgs.get (i := i) h.2.2 (by simpa using e)
  | .val _ :: _, [], _, _, _, _, h, _ => h.elim
  | .val _ :: _, _ :: _, [], _, _, _, h, _ => h.elim
  | .val _ :: _, _ :: _, _ :: _, [], _, _, h, _ => h.elim
  | .slot _ :: _, [], _, _, _, _, h, _ => h.elim
  | .slot _ :: _, _ :: _, [], _, _, _, h, _ => h.elim
  | .slot _ :: _, _ :: _, _ :: _, [], _, _, h, _ => h.elim
theorem val_apart (r : R K Z F H env σ fp) {J : List Nat} {f : List Addr} {j : Nat} (hr : rootsOk cs J env = true) {i : Nat} (hc : cs[i]? = some (.val k)) (ko : KOk k H0 env0 fp0 F env fp f) (hj : j ∈ J) (ho : isOwn env j) : ∀ a ∈ f, a ∉ fp j := by
  intro a ha hm
  cases k with
  | own => exact (ko a ha).2.1 ⟨j, ho, hm⟩
  | frz =>
    have e : f = [] := ko
    rw [e] at ha
    cases ha
  | bor m =>
    have q := List.all_eq_true.mp hr _ (List.mem_of_getElem? hc)
    have q' : rootOk env J m = true := q
    unfold rootOk at q'
    have hfm := ko.2 a ha
    have s := r.slot m
    unfold SlotR at s
    cases e : env[m]? with
    | none => rw [e] at q'; cases q'
    | some t =>
      rw [e] at q' s
      cases t with
      | dead => cases q'
      | own d =>
        have ne : m ≠ j := fun z => by
          subst z
          simp [hj] at q'
        exact r.sep m j ne (.inl ⟨d, e⟩) (.inl ho) a hfm hm
      | bor t d =>
        cases t with
        | none =>
          obtain ⟨v, _, _, h3⟩ := s
          exact r.sepB j (.inl ho) a hm (h3 a hfm)
        | some t =>
          obtain ⟨v, _, _, h3, h4⟩ := s
          have ne : t ≠ j := fun z => by
            subst z
            simp [hj] at q'
          exact r.sep t j ne h3 (.inl ho) a (h4 a hfm) hm
def SepL (F H : Hp) : List Bool → List (List Addr) → Prop
  | true :: ks, f :: fs => (∀ g ∈ fs, ∀ a ∈ f, a ∉ g) ∧ (∀ a ∈ f, F a = none ∧ NF H a) ∧ SepL F H ks fs
  | false :: ks, f :: fs => (∀ (i : Nat) (g : List Addr), ks[i]? = some true → fs[i]? = some g → ∀ a ∈ f, a ∉ g) ∧ SepL F H ks fs
  | _, _ => True
theorem SepL.sep : ∀ {ks : List Bool} {fs : List (List Addr)}, SepL F H ks fs → ArgSep F H ks fs
  | [], fs, _ => ⟨fun i j fi fj _ h => (by simp at h), fun i fi h => (by simp at h), fun i fi h => (by simp at h)⟩
  | b :: ks, [], _ => ⟨fun i j fi fj _ _ h => (by simp at h), fun i fi _ h => (by simp at h), fun i fi _ h => (by simp at h)⟩
  | true :: ks, f :: fs, h => by
    obtain ⟨h1, h2, h3⟩ := h
    have ih := SepL.sep h3
    refine ⟨fun i j fi fj hij hk hi hj a ha hm => ?_, fun i fi hk hi => ?_, fun i fi hk hi => ?_⟩
    · cases i with
      | zero =>
        simp at hi
        subst hi
        cases j with
        | zero => exact hij rfl
        | succ j => exact h1 fj (List.mem_of_getElem? (by simpa using hj)) a ha hm
      | succ i =>
        cases j with
        | zero =>
          simp at hj
          subst hj
          exact h1 fi (List.mem_of_getElem? (by simpa using hi)) a hm ha
        | succ j => exact ih.apart i j fi fj (by omega) (by simpa using hk) (by simpa using hi) (by simpa using hj) a ha hm
    · cases i with
      | zero =>
        simp at hi
        subst hi
        exact fun a ha => (h2 a ha).1
      | succ i => exact ih.hF i fi (by simpa using hk) (by simpa using hi)
    · cases i with
      | zero =>
        simp at hi
        subst hi
        exact fun a ha => (h2 a ha).2
      | succ i => exact ih.nf i fi (by simpa using hk) (by simpa using hi)
  | false :: ks, f :: fs, h => by
    obtain ⟨h1, h3⟩ := h
    have ih := SepL.sep h3
    refine ⟨fun i j fi fj hij hk hi hj a ha hm => ?_, fun i fi hk hi => ?_, fun i fi hk hi => ?_⟩
    · cases i with
      | zero => simp at hk
      | succ i =>
        cases j with
        | zero =>
          simp at hj
          subst hj
          exact h1 i fi (by simpa using hk) (by simpa using hi) a hm ha
        | succ j => exact ih.apart i j fi fj (by omega) (by simpa using hk) (by simpa using hi) (by simpa using hj) a ha hm
    · cases i with
      | zero => simp at hk
      | succ i => exact ih.hF i fi (by simpa using hk) (by simpa using hi)
    · cases i with
      | zero => simp at hk
      | succ i => exact ih.nf i fi (by simpa using hk) (by simpa using hi)
theorem SepL.grow {F H H' : Hp} (n : ∀ a o u, H' a = some (.frz o u) → H a = some (.frz o u)) : ∀ {ks : List Bool} {fs : List (List Addr)}, SepL F H ks fs → SepL F H' ks fs
  | [], _, _ => trivial
  | true :: ks, [], _ => trivial
  | false :: ks, [], _ => trivial
  | true :: ks, f :: fs, h => ⟨h.1, fun a ha => ⟨(h.2.1 a ha).1, fun o u z => (h.2.1 a ha).2 o u (n a o u z)⟩, h.2.2.grow n⟩
  | false :: ks, f :: fs, h => ⟨h.1, h.2.grow n⟩
theorem fix_ok (r : R K Z F H env σ fp) (ca : CArgs K H0 env0 fp0 F H env fp σ cs ds vs frs) {J : List Nat} (hr : J ≠ [] → rootsOk cs J env = true) : ∀ {kinds : List Bool} {ar : List Ar} {as : List D}, fixA cs ds env kinds ar = some as → (jsOf cs kinds ar).Nodup → (∀ j ∈ jsOf cs kinds ar, j ∈ J) →
    RepA K F H as (arV ar vs) (frA cs frs fp kinds ar) ∧ SepL F H kinds (frA cs frs fp kinds ar) ∧ kinds.length = as.length ∧ (∀ j ∈ jsOf cs kinds ar, isOwn env j) ∧ (∀ (i : Nat) (g : List Addr), kinds[i]? = some true → (frA cs frs fp kinds ar)[i]? = some g → ∃ j ∈ jsOf cs kinds ar, g = fp j) ∧
    (∀ g ∈ frA cs frs fp kinds ar, (∃ j ∈ jsOf cs kinds ar, g = fp j) ∨ ∀ j ∈ J, isOwn env j → ∀ a ∈ g, a ∉ fp j) ∧ Paired (fun j v => σ[j]? = some (some v)) (jsOf cs kinds ar) (mvs kinds (arV ar vs))
  | [], [], as, h, _, _ => by
    cases h
    exact ⟨trivial, trivial, rfl, fun j hj => (by cases hj), fun i g h => (by simp at h), fun g hg => (by cases hg), .nil⟩
  | [], _ :: _, as, h, _, _ => by cases h
  | true :: ks, [], as, h, _, _ => by cases h
  | false :: ks, [], as, h, _, _ => by cases h
  | true :: ks, .dfl d :: ar, as, h, _, _ => by cases h
  | true :: ks, .arg i :: ar, as, h, nd, hJ => by
    unfold fixA at h
    unfold jsOf at nd hJ ⊢
    unfold frA
    cases q : cs[i]? with
    | none => rw [q] at h; cases h
    | some c =>
      cases c with
      | val k => rw [q] at h; cases h
      | slot j =>
        rw [q] at h
        rw [q] at nd hJ
        cases q2 : env[j]? with
        | none => simp only [q2] at h; cases h
        | some t =>
          simp only [q2] at h
          cases t with
          | own d =>
            simp only [Option.map_eq_some_iff] at h
            obtain ⟨as', h1, rfl⟩ := h
            have nd' : (j :: jsOf cs ks ar).Nodup := nd
            have hJ' : ∀ m ∈ j :: jsOf cs ks ar, m ∈ J := hJ
            rw [List.nodup_cons] at nd'
            obtain ⟨i1, i2, i3, i4, i5, i6, i7⟩ := fix_ok r ca hr h1 nd'.2 fun m hm => hJ' m (List.mem_cons_of_mem _ hm)
            obtain ⟨d0, v, f, e1, e2, e3, e4, e5⟩ := ca.get q
            have ho : isOwn env j := ⟨d, q2⟩
            have s := r.slot j
            unfold SlotR at s
            rw [q2] at s
            obtain ⟨v', s1, s2⟩ := s
            rw [e4] at s1
            cases s1
            have ev : vs.getD i .non = v := by rw [List.getD_eq_getElem?_getD, e2]; rfl
            refine ⟨⟨by rw [ev]; exact s2, i1⟩, ⟨fun g hg a ha hm => ?_, fun a ha => ⟨r.hF j (.inl ho) a ha, r.nf j ho a ha⟩, i2⟩, by rw [List.length_cons, List.length_cons, i3], fun m hm => ?_, fun x g hx hg => ?_, fun g hg => ?_, ?_⟩
            · rcases i6 g hg with ⟨m, hm', rfl⟩ | z
              · have ne : j ≠ m := fun z => nd'.1 (z ▸ hm')
                exact r.sep j m ne (.inl ho) (.inl (i4 m hm')) a ha hm
              · exact z j (hJ' j (List.mem_cons_self ..)) ho a hm ha
            · rcases List.mem_cons.mp hm with rfl | hm
              · exact ho
              · exact i4 m hm
            · cases x with
              | zero =>
                simp at hg
                exact ⟨j, List.mem_cons_self .., hg.symm⟩
              | succ x =>
                obtain ⟨m, hm, e⟩ := i5 x g (by simpa using hx) (by simpa using hg)
                exact ⟨m, List.mem_cons_of_mem _ hm, e⟩
            · rcases List.mem_cons.mp hg with rfl | hg
              · exact .inl ⟨j, List.mem_cons_self .., rfl⟩
              · rcases i6 g hg with ⟨m, hm', e⟩ | z
                · exact .inl ⟨m, List.mem_cons_of_mem _ hm', e⟩
                · exact .inr z
            · show Paired _ (j :: jsOf cs ks ar) (vs.getD i .non :: mvs ks (arV ar vs))
              exact .cons (by rw [ev]; exact e4) i7
          | dead => cases h
          | bor _ _ => cases h
  | false :: ks, .arg i :: ar, as, h, nd, hJ => by
    unfold fixA at h
    unfold jsOf at nd hJ ⊢
    unfold frA
    cases q : cs[i]? with
    | none => rw [q] at h; cases h
    | some c =>
      cases c with
      | slot j => rw [q] at h; cases h
      | val k =>
        rw [q] at h
        obtain ⟨d0, v, f, e1, e2, e3, e4, e5⟩ := ca.get q
        simp only [e1, Option.map_eq_some_iff] at h
        obtain ⟨as', h1, rfl⟩ := h
        obtain ⟨i1, i2, i3, i4, i5, i6, i7⟩ := fix_ok r ca hr h1 nd hJ
        have ev : vs.getD i .non = v := by rw [List.getD_eq_getElem?_getD, e2]; rfl
        have ef : frs.getD i [] = f := by rw [List.getD_eq_getElem?_getD, e3]; rfl
        have ap : ∀ j ∈ J, isOwn env j → ∀ a ∈ f, a ∉ fp j := fun j hj ho => val_apart r (hr (List.ne_nil_of_mem hj)) q e5 hj ho
        refine ⟨⟨by rw [ev, ef]; exact e4, i1⟩, ⟨fun x g hx hg a ha hm => ?_, i2⟩, by rw [List.length_cons, List.length_cons, i3], i4, fun x g hx hg => ?_, fun g hg => ?_, i7⟩
        · obtain ⟨m, hm', rfl⟩ := i5 x g hx hg
          rw [ef] at ha
          exact ap m (hJ m hm') (i4 m hm') a ha hm
        · cases x with
          | zero => simp at hx
          | succ x => exact i5 x g (by simpa using hx) (by simpa using hg)
        · rcases List.mem_cons.mp hg with rfl | hg
          · rw [ef]
            exact .inr ap
          · exact i6 g hg
  | false :: ks, .dfl d :: ar, as, h, nd, hJ => by
    unfold fixA at h
    unfold jsOf at nd hJ ⊢
    unfold frA
    split at h
    · rename_i hp
      rw [Option.map_eq_some_iff] at h
      obtain ⟨as', h1, rfl⟩ := h
      obtain ⟨i1, i2, i3, i4, i5, i6, i7⟩ := fix_ok r ca hr h1 nd hJ
      obtain ⟨v, hv⟩ := Option.isSome_iff_exists.mp hp
      have ev : (plainV d).getD .non = v := by rw [hv]; rfl
      refine ⟨⟨by rw [ev]; exact .plain hv, i1⟩, ⟨fun x g hx hg a ha => (by cases ha), i2⟩, by rw [List.length_cons, List.length_cons, i3], i4, fun x g hx hg => ?_, fun g hg => ?_, i7⟩
      · cases x with
        | zero => simp at hx
        | succ x => exact i5 x g (by simpa using hx) (by simpa using hg)
      · rcases List.mem_cons.mp hg with rfl | hg
        · exact .inr fun j _ _ a ha => by cases ha
        · exact i6 g hg
    · cases h
def fpD (js : List Nat) (fp : Fp) : Fp := fun i => if i ∈ js then [] else fp i
theorem hold_dead : ∀ {js : List Nat} {env : Evn} {i : Nat}, (∀ j ∈ js, j < env.length) → (isOwn (deadM js env) i ↔ isOwn env i ∧ i ∉ js) ∧ (isLk (deadM js env) i ↔ isLk env i ∧ i ∉ js)
  | [], env, i, _ => by simp [deadM]
  | j :: js, env, i, hl => by
    have hj := hl j (List.mem_cons_self ..)
    have ih := hold_dead (js := js) (env := putE j .dead env) (i := i) (fun m hm => by rw [putE_length]; exact hl m (List.mem_cons_of_mem _ hm))
    rw [deadM]
    rw [ih.1, ih.2]
    by_cases e : i = j
    · subst e
      have n1 : ¬ isOwn (putE i .dead env) i := fun ⟨d, q⟩ => by rw [putE_same hj] at q; cases q
      have n2 : ¬ isLk (putE i .dead env) i := fun ⟨d, q⟩ => by rw [putE_same hj] at q; cases q
      simp [n1, n2]
    · rw [isOwn_put e, isLk_put e, List.mem_cons]
      simp [e]
theorem deadM_length : ∀ (js : List Nat) (env : Evn), (deadM js env).length = env.length
  | [], env => rfl
  | j :: js, env => by rw [deadM, deadM_length js, putE_length]
theorem lk_dead : ∀ {js : List Nat} {env : Evn} {i : Nat}, (∀ j ∈ js, j < env.length) → isLk (deadM js env) i → (deadM js env)[i]? = env[i]?
  | [], env, i, _, h => rfl
  | j :: js, env, i, hl, h => by
    have hl' : ∀ m ∈ js, m < (putE j .dead env).length := fun m hm => by rw [putE_length]; exact hl m (List.mem_cons_of_mem _ hm)
    have h1 := lk_dead hl' h
    have h2 := ((hold_dead hl').2.mp h).1
    have ne : i ≠ j := fun z => by
      subst z
      obtain ⟨d, q⟩ := h2
      rw [putE_same (hl i (List.mem_cons_self ..))] at q
      cases q
    exact h1.trans (killS_lk ne h2)
theorem R.dead : ∀ {js : List Nat} {env : Evn} {fp : Fp}, R K Z F H env σ fp → (∀ j ∈ js, j < env.length) → R K Z F H (deadM js env) σ (fpD js fp)
  | [], env, fp, r, _ => by
    have e : fpD [] fp = fp := by funext i; simp [fpD]
    rw [e]
    exact r
  | j :: js, env, fp, r, hl => by
    have hj := hl j (List.mem_cons_self ..)
    have r1 := r.put (s' := .dead) (f' := []) hj (fun _ _ => rfl) rfl r.pin trivial
    have r2 := R.dead (js := js) r1 fun m hm => by rw [putE_length]; exact hl m (List.mem_cons_of_mem _ hm)
    have e : fpD js (fset fp j []) = fpD (j :: js) fp := by
      funext i
      unfold fpD fset
      by_cases h1 : i ∈ js
      · simp [h1]
      · by_cases h2 : i = j
        · simp [h2]
        · simp [h1, h2]
    rw [e] at r2
    exact r2
theorem R.out (r : R K Z F H env σ fp) {M : Addr → Prop} (e : FEv F H M F' H') (hM : ∀ a, M a → ¬ HoldA env fp a) (hB : ∀ a, M a → ¬ Z.B a) : R K Z F' H' env σ fp where
  sub := e.has
  slot := fun i => by
    have s := r.slot i
    unfold SlotR at s ⊢
    have go : ∀ {d v}, Rep K F H d v (fp i) → (∀ a ∈ fp i, ¬ M a) → Rep K F' H' d v (fp i) := fun {d v} h n => Rep.mono e.sub d v _ (fun a ha u hu => hu.same fun o ho => e.keep a o ho (n a ha)) h
    split at s
    · rename_i d q
      obtain ⟨v, h1, h2⟩ := s
      exact ⟨v, h1, go h2 fun a ha hm => hM a hm ⟨i, .inl ⟨d, q⟩, ha⟩⟩
    · rename_i d q
      obtain ⟨v, h1, h2, h3⟩ := s
      exact ⟨v, h1, go h2 fun a ha hm => hB a hm (h3 a ha), h3⟩
    · rename_i j d q
      obtain ⟨v, h1, h2, h3, h4⟩ := s
      exact ⟨v, h1, go h2 fun a ha hm => hM a hm ⟨j, h3, h4 a ha⟩, h3, h4⟩
    · trivial
  sep := r.sep
  sepB := r.sepB
  hF := fun i hi a ha => by
    cases q : F' a with
    | none => rfl
    | some u =>
      rcases e.new a (r.hF i hi a ha) (by rw [q]; exact fun z => by cases z) with z | z
      · exact absurd z (r.hold_dom hi ha)
      · exact absurd ⟨i, hi, ha⟩ (hM a z)
  domB := fun a h => e.dom a (r.domB a h)
  pin := r.pin
  gh := fun p hp => Rep.mono e.sub _ _ _ (fun a ha => by cases ha) (r.gh p hp)
  len := r.len
  nf := fun i hi a ha o u h => r.nf i hi a ha o u (e.nofz a o u h)
theorem R.putM : ∀ {js : List Nat} {ms : List D} {vs : List V} {nfs : List (List Addr)} {env : Evn} {fp : Fp}, R K Z F H env σ fp → js.Nodup → (∀ j ∈ js, j < env.length) → (∀ j ∈ js, ¬ hold env j) → Paired (fun j v => σ[j]? = some (some v)) js vs → RepA K F H ms vs nfs →
    (∀ (i j : Nat) (fi fj : List Addr), i ≠ j → nfs[i]? = some fi → nfs[j]? = some fj → ∀ a ∈ fi, a ∉ fj) → (∀ f ∈ nfs, ∀ a ∈ f, ¬ HoldA env fp a ∧ (¬ Z.B a ∧ F a = none) ∧ NF H a) →
    ∃ fp', R K Z F H (DL.putM js ms env) σ fp' ∧ (∀ a, OwnA (DL.putM js ms env) fp' a → OwnA env fp a ∨ ∃ f ∈ nfs, a ∈ f) ∧ (∀ i, isLk (DL.putM js ms env) i → (DL.putM js ms env)[i]? = env[i]? ∧ fp' i = fp i)
  | [], ms, vs, nfs, env, fp, r, nd, hl, hh, p, rep, ap, own => by
    cases p
    cases ms with
    | nil => exact ⟨fp, r, fun a h => .inl h, fun i h => ⟨rfl, rfl⟩⟩
    | cons m ms => exact rep.elim
  | j :: js, ms, vs, nfs, env, fp, r, nd, hl, hh, p, rep, ap, own => by
    cases p with
    | @cons _ v _ vs' hv pr =>
      cases ms with
      | nil => exact rep.elim
      | cons m ms =>
        obtain ⟨v', ws, f, fs, e1, rfl, h1, h2⟩ := rep.inv
        cases e1
        rw [List.nodup_cons] at nd
        have hj := hl j (List.mem_cons_self ..)
        have of := own f (List.mem_cons_self ..)
        have r1 := r.put (s' := .own m) (f' := f) hj (fun _ _ => rfl) rfl r.pin ⟨⟨v, hv, h1⟩, fun i _ hi a ha hm => (of a ha).1 ⟨i, hi, hm⟩, fun a ha => (of a ha).2⟩
        have hne : ∀ m ∈ js, m ≠ j := fun m hm z => nd.1 (z ▸ hm)
        have hold1 : ∀ {i a}, hold (putE j (.own m) env) i → a ∈ fset fp j f i → HoldA env fp a ∨ a ∈ f := fun {i a} hi ha => by
          by_cases e : i = j
          · subst e
            rw [fset_same] at ha
            exact .inr ha
          · rw [fset_ne e] at ha
            exact .inl ⟨i, (hold_put e).mp hi, ha⟩
        obtain ⟨fp', q1, q2, q3⟩ := R.putM (js := js) (ms := ms) (vs := vs') (nfs := fs) r1 nd.2 (fun m hm => by rw [putE_length]; exact hl m (List.mem_cons_of_mem _ hm)) (fun m hm z => hh m (List.mem_cons_of_mem _ hm) ((hold_put (hne m hm)).mp z)) pr h2
          (fun x y fx fy hxy hx hy => ap (x + 1) (y + 1) fx fy (by omega) (by simpa using hx) (by simpa using hy)) (fun g hg a ha => by
            have og := own g (List.mem_cons_of_mem _ hg) a ha
            refine ⟨fun ⟨i, hi, hm⟩ => ?_, og.2⟩
            rcases hold1 hi hm with z | z
            · exact og.1 z
            · obtain ⟨y, hy, ey⟩ := List.mem_iff_getElem.mp hg
              exact ap 0 (y + 1) f g (by omega) rfl (by simp [hy, ey]) a z ha)
        refine ⟨fp', q1, fun a h => ?_, fun i h => ?_⟩
        · rcases q2 a h with ⟨i, hi, ha⟩ | ⟨g, hg, ha⟩
          · by_cases e : i = j
            · subst e
              rw [fset_same] at ha
              exact .inr ⟨f, List.mem_cons_self .., ha⟩
            · rw [fset_ne e] at ha
              exact .inl ⟨i, (isOwn_put e).mp hi, ha⟩
          · exact .inr ⟨g, List.mem_cons_of_mem _ hg, ha⟩
        · obtain ⟨a1, a2⟩ := q3 i h
          have hi : isLk (putE j (.own m) env) i := let ⟨d, z⟩ := h; ⟨d, by rw [← a1]; exact z⟩
          by_cases e : i = j
          · subst e
            obtain ⟨d, z⟩ := hi
            rw [putE_same hj] at z
            cases z
          · rw [fset_ne e] at a2
            exact ⟨a1.trans (killS_lk e hi), a2⟩
theorem R.back (r : R K Z F H env σ fp) {js : List Nat} {M : Addr → Prop} {ms : List D} {vs : List V} {nfs : List (List Addr)} (ho : ∀ j ∈ js, isOwn env j) (nd : js.Nodup) (e : FEv F H M F' H') (hM : ∀ a, M a → ∃ j ∈ js, a ∈ fp j) (p : Paired (fun j v => σ[j]? = some (some v)) js vs)
    (rep : RepA K F' H' ms vs nfs) (ap : ∀ (i j : Nat) (fi fj : List Addr), i ≠ j → nfs[i]? = some fi → nfs[j]? = some fj → ∀ a ∈ fi, a ∉ fj) (own : ∀ f ∈ nfs, ∀ a ∈ f, (H a = none ∨ M a) ∧ F' a = none) :
    ∃ fp', Ev true F H env fp F' H' (backM js ms env) fp' ∧ R K Z F' H' (backM js ms env) σ fp' ∧ (∀ a, OwnA (backM js ms env) fp' a → (H a ≠ none ∧ ¬ M a) ∨ ∃ f ∈ nfs, a ∈ f) := by
  have hl : ∀ j ∈ js, j < env.length := fun j hj => let ⟨d, q⟩ := ho j hj; (List.getElem?_eq_some_iff.mp q).1
  have rd := r.dead hl
  have hd : ∀ {i}, hold (deadM js env) i → hold env i ∧ i ∉ js := fun {i} h => by
    rcases h with h | h
    · have z := (hold_dead hl).1.mp h
      exact ⟨.inl z.1, z.2⟩
    · have z := (hold_dead hl).2.mp h
      exact ⟨.inr z.1, z.2⟩
  have hMo : ∀ a, M a → OwnA env fp a := fun a h => let ⟨j, hj, ha⟩ := hM a h; ⟨j, ho j hj, ha⟩
  have hMd : ∀ a, M a → ¬ HoldA (deadM js env) (fpD js fp) a := fun a h ⟨i, hi, ha⟩ => by
    obtain ⟨h1, h2⟩ := hd hi
    obtain ⟨j, hj, hm⟩ := hM a h
    have ne : i ≠ j := fun z => h2 (z ▸ hj)
    unfold fpD at ha
    rw [if_neg h2] at ha
    exact r.sep i j ne h1 (.inl (ho j hj)) a ha hm
  have hdom : ∀ a, HoldA (deadM js env) (fpD js fp) a → H a ≠ none := fun a ⟨i, hi, ha⟩ => rd.hold_dom hi ha
  have ro := rd.out e hMd fun a h => r.own_B (hMo a h)
  obtain ⟨fp', q1, q2, q3⟩ := R.putM ro nd (fun j hj => by rw [deadM_length]; exact hl j hj) (fun j hj h => (hd h).2 hj) p rep ap fun f hf a ha => by
    obtain ⟨o1, o2⟩ := own f hf a ha
    refine ⟨fun h => ?_, ⟨fun hB => ?_, o2⟩, fun o u ho => ?_⟩
    · rcases o1 with z | z
      · exact hdom a h z
      · exact hMd a z h
    · rcases o1 with z | z
      · exact r.domB a hB z
      · exact r.own_B (hMo a z) hB
    · have h0 := e.nofz a o u ho
      rcases o1 with z | z
      · rw [z] at h0
        cases h0
      · exact r.own_nf (hMo a z) o u h0
  have ownd : ∀ a, OwnA (deadM js env) (fpD js fp) a → OwnA env fp a ∧ ¬ M a := fun a h => by
    refine ⟨?_, fun hm => hMd a hm (let ⟨i, hi, ha⟩ := h; ⟨i, .inl hi, ha⟩)⟩
    obtain ⟨i, hi, ha⟩ := h
    obtain ⟨h1, h2⟩ := (hold_dead hl).1.mp hi
    unfold fpD at ha
    rw [if_neg h2] at ha
    exact ⟨i, h1, ha⟩
  refine ⟨fp', ⟨fun a o h n => e.keep a o h fun z => n rfl (hMo a z), e.sub, fun a h1 h2 => (e.new a h1 h2).imp id fun z => ⟨rfl, hMo a z⟩, fun a h => ?_, fun i h => ?_, e.nofz, e.dom, fun z => by cases z⟩, q1, fun a h => ?_⟩
  · rcases q2 a h with z | ⟨f, hf, ha⟩
    · exact .inr (ownd a z).1
    · exact (own f hf a ha).1.imp id (hMo a)
  · obtain ⟨a1, a2⟩ := q3 i h
    have hi : isLk (deadM js env) i := let ⟨d, z⟩ := h; ⟨d, by rw [← a1]; exact z⟩
    have h2 := ((hold_dead hl).2.mp hi).2
    unfold fpD at a2
    rw [if_neg h2] at a2
    exact ⟨a1.trans (lk_dead hl hi), a2⟩
  · rcases q2 a h with z | z
    · exact .inl ⟨r.own_dom (ownd a z).1, (ownd a z).2⟩
    · exact .inr z
end
end DL
namespace DL
open PySem PySem.Spec L2
def foRs (js : List Nat) (e : Evn) : Fo → Rs D
  | .ret d ms => .ok d (backM js ms e)
  | .exc c x ms => .exc c x (backM js ms e)
  | .stuck => .stuck
def fCall (Fx : List D → Fo) (kinds : List Bool) (ar : List Ar) (cs : List CK) (fa : FA) : FE := fun env => (fa env).bind fun ds e =>
  if ((jsOf cs kinds ar).isEmpty || rootsOk cs (jsOf cs kinds ar) e) = true then (match fixA cs ds e kinds ar with
    | some as => foRs (jsOf cs kinds ar) e (Fx as)
    | none => .stuck) else .stuck
section
variable {K : PySem.W.Frag} {W : WX} {ε ε1 ε2 : Bool} {F H F1 H1 F2 H2 F' H' F0 H0 : Hp} {env env1 env2 env' env0 : Evn} {fp fp1 fp2 fp' fp0 : Fp} {Z : Zst} {σ : L2.St} {k k1 k2 : Kd} {cs cs1 cs2 : List CK} {ds ms as : List D} {vs : List V} {frs nfs : List (List Addr)} {kinds : List Bool} {ar : List Ar}
theorem Paired.nil_right {α β : Type} {P : α → β → Prop} {l : List β} (h : Paired P [] l) : l = [] := by cases h; rfl
theorem back_ok (r : R K Z F H env σ fp) {js : List Nat} {M : Addr → Prop} {ms : List D} {vs : List V} {nfs : List (List Addr)} (ho : ∀ j ∈ js, isOwn env j) (nd : js.Nodup) (e : FEv F H M F' H') (hM : ∀ a, M a → ∃ j ∈ js, a ∈ fp j) (p : Paired (fun j v => σ[j]? = some (some v)) js vs)
    (rep : RepA K F' H' ms vs nfs) (ap : ∀ (i j : Nat) (fi fj : List Addr), i ≠ j → nfs[i]? = some fi → nfs[j]? = some fj → ∀ a ∈ fi, a ∉ fj) (own : ∀ f ∈ nfs, ∀ a ∈ f, (H a = none ∨ M a) ∧ F' a = none) :
    ∃ fp', Ev (!js.isEmpty) F H env fp F' H' (backM js ms env) fp' ∧ R K Z F' H' (backM js ms env) σ fp' ∧ (∀ a, OwnA (backM js ms env) fp' a → (H a ≠ none ∧ ¬ M a) ∨ ∃ f ∈ nfs, a ∈ f) := by
  cases js with
  | cons j js => exact r.back ho nd e hM p rep ap own
  | nil =>
    have ev : vs = [] := Paired.nil_right p
    subst ev
    have em : ms = [] := by
      cases ms with
      | nil => rfl
      | cons m ms =>
        obtain ⟨_, _, _, _, e1, _⟩ := rep.inv
        cases e1
    subst em
    have nM : ∀ a, ¬ M a := fun a h => let ⟨_, hj, _⟩ := hM a h; by cases hj
    refine ⟨fp, ⟨fun a o h _ => e.keep a o h (nM a), e.sub, fun a h1 h2 => .inl ((e.new a h1 h2).resolve_right (nM a)), fun a h => .inr h, fun _ _ => ⟨rfl, rfl⟩, e.nofz, e.dom, fun _ => ⟨rfl, rfl⟩⟩, r.out e (fun a h => absurd h (nM a)) (fun a h => absurd h (nM a)), fun a h => .inl ⟨r.own_dom h, nM a⟩⟩
theorem muts_M (h5 : ∀ (i : Nat) (g : List Addr), kinds[i]? = some true → (frA cs frs fp kinds ar)[i]? = some g → ∃ j ∈ jsOf cs kinds ar, g = fp j) : ∀ a, MutA kinds (frA cs frs fp kinds ar) a → ∃ j ∈ jsOf cs kinds ar, a ∈ fp j := fun a ⟨i, f, h1, h2, ha⟩ => by
  obtain ⟨j, hj, e⟩ := h5 i f h1 h2
  exact ⟨j, hj, e ▸ ha⟩
theorem esim_call {tA : TAK} {fa : FA} {n : Nat} {kw : List Str} {gV : List V → List V → List V} {Fx : List D → Fo} (ha : KSim K W ε n cs tA fa) (hl : cs.length = n + kw.length) (hgV : ∀ vs zs, vs.length = n → zs.length = kw.length → gV vs zs = arV ar (vs ++ zs)) (nd : (jsOf cs kinds ar).Nodup) :
    ESim K W (ε || !(jsOf cs kinds ar).isEmpty) .own (tCl n kw (spD K kinds Fx) gV W tA) (fCall Fx kinds ar cs fa) := by
  intro Z F H env σ fp Q r0 hq
  refine ha Z F H env σ fp _ r0 (Post.bind hq orL orLF fun ds e1 h1 F1 H1 fp1 vs zs frs ev r1 hn ca => ?_)
  have hz : zs.length = kw.length := by
    have q := ca.len.2.1
    rw [List.length_append, hn] at q
    omega
  refine ⟨hn, hz, ?_⟩
  rw [hgV vs zs hn hz]
  split at h1
  case isFalse => exact h1.elim
  rename_i hr
  cases q : fixA cs ds e1 kinds ar with
  | none => rw [q] at h1; exact h1.elim
  | some as =>
    rw [q] at h1
    have hr' : jsOf cs kinds ar ≠ [] → rootsOk cs (jsOf cs kinds ar) e1 = true := fun z => by
      rw [Bool.or_eq_true] at hr
      rcases hr with hr | hr
      · exact absurd (List.isEmpty_iff.mp hr) z
      · exact hr
    obtain ⟨i1, i2, i3, i4, i5, i6, i7⟩ := fix_ok r1 ca hr' q nd fun j hj => hj
    refine ⟨F1, as, _, r1.sub, i1, i3, i2.sep, ?_⟩
    have hM := muts_M i5
    have h1' : Post K W (ε || !(jsOf cs kinds ar).isEmpty) Z F H env σ fp (fun d env' => ∀ F' H' fp' v fr, Ev (ε || !(jsOf cs kinds ar).isEmpty) F H env fp F' H' env' fp' → R K Z F' H' env' σ fp' → Rep K F' H' d v fr → KOk .own H env fp F' env' fp' fr → Q v H') (foRs (jsOf cs kinds ar) e1 (Fx as)) := h1
    cases q2 : Fx as with
    | stuck => rw [q2] at h1'; exact h1'.elim
    | ret d ms =>
      rw [q2] at h1'
      intro F' H' v fr nfs fe rp mu own
      obtain ⟨fp', b1, b2, b3⟩ := back_ok r1 i4 nd fe hM i7 mu.rep mu.apart mu.own
      refine h1' F' H' fp' v fr (ev.trans b1) b2 rp fun a ha => ?_
      obtain ⟨o1, o2, o3⟩ := own a ha
      refine ⟨?_, fun z => ?_, o2⟩
      · rcases o1 with z | z
        · exact .inl (ev.nd z)
        · obtain ⟨j, hj, hm⟩ := hM a z
          exact ev.own a ⟨j, i4 j hj, hm⟩
      · rcases b3 a z with ⟨z1, z2⟩ | ⟨f, hf, hm⟩
        · rcases o1 with y | y
          · exact z1 y
          · exact z2 y
        · exact o3 f hf hm
    | exc c x ms =>
      rw [q2] at h1'
      intro F' H' dx nfs fe rp mu
      obtain ⟨fp', b1, b2, b3⟩ := back_ok r1 i4 nd fe hM i7 mu.rep mu.apart mu.own
      exact h1' F' H' fp' dx (ev.trans b1) b2 rp
def isIns (cl m : Str) : D → Bool
  | .node _ (.ins c fs) _ => decide (c = cl) && !fs.contains m
  | _ => false
def tRcv (C : Addr) (m : Str) (te : TE) (t : TAK) : TAK := fun σ H G => te σ H fun x H0 => ∃ a dx fs, x = .ref a ∧ H0 a = some (.ins C dx fs) ∧ fs.lookup m = none ∧ t σ H0 fun vs zs H1 => G (x :: vs) zs H1
theorem lookup_none_zip {m : Str} : ∀ {fs : List Str} {vs : List V}, fs.contains m = false → (fs.zip vs).lookup m = none := fun {fs vs} h => by
  rw [look_lookup]
  revert vs
  induction fs with
  | nil => intro vs; simp [look]
  | cons f fs ih =>
    intro vs
    cases vs with
    | nil => simp [look]
    | cons v vs =>
      have h2 : m ≠ f ∧ fs.contains m = false := by
        constructor
        · intro z; subst z; simp at h
        · by_cases z : fs.contains m = true
          · have : (f :: fs).contains m = true := by simp at z ⊢; exact .inr z
            rw [this] at h; cases h
          · simpa using z
      unfold look
      rw [if_neg (Ne.symm h2.1)]
      exact ih h2.2
theorem ins_of {cl m : Str} {d : D} {v : V} {fr : List Addr} (hs : ∀ a u, F a = some u → Has H a u) (h : Rep K F H d v fr) (q : isIns cl m d = true) : ∃ a dx fs, v = .ref a ∧ H a = some (.ins (He.ga K cl) dx fs) ∧ fs.lookup m = none := by
  unfold isIns at q
  split at q
  · rename_i o c fs xs
    rw [Bool.and_eq_true] at q
    have e : c = cl := of_decide_eq_true q.1
    subst e
    obtain ⟨a, u, vs, fq, rfl, h1, h2, h3, h4⟩ := h.node hs
    obtain ⟨hl, dx, rfl⟩ := h2
    exact ⟨a, dx, _, rfl, h1.ex rfl, lookup_none_zip (by simpa using q.2)⟩
  · cases q
def fRcv (cl m : Str) (f : FE) (g : FA) : FA := fun env => (f env).bind fun d e => if isIns cl m d = true then (g e).map (d :: ·) else .stuck
def fRcvS (cl m : Str) (j : Nat) (g : FA) : FA := fun env => match env[j]? with
  | some (.own d) => if isIns cl m d = true then (g env).map (.non :: ·) else .stuck
  | _ => .stuck
theorem msim_val {te : TE} {t : TAK} {f : FE} {g : FA} {n : Nat} {cl m : Str} (he : ESim K W ε1 k te f) (ha : KSim K W ε2 n cs t g) (hp : ε2 = true → ∀ j, k ≠ .bor j := by first | exact fun h => (nomatch h) | exact fun _ j h => (nomatch h)) : KSim K W (ε1 || ε2) (n + 1) (.val k :: cs) (tRcv (He.ga K cl) m te t) (fRcv cl m f g) := by
  intro Z F H env σ fp Q r h
  refine he Z F H env σ fp _ r (Post.bind h orL orLF fun d env1 h1 F1 H1 fp1 v fr e1 r1 rep1 k1' => ?_)
  split at h1
  case isFalse => exact h1.elim
  rename_i hi
  obtain ⟨a, dx, fs, e2, e3, e4⟩ := ins_of r1.sub rep1 hi
  refine ⟨a, dx, fs, e2, e3, e4, ?_⟩
  have h1' := Post.seq (a := d) e1 h1
  refine ha Z F1 H1 env1 σ fp1 _ r1 (Post.bind (ε := ε2) h1' id id fun ds env2 h2 F2 H2 fp2 vs zs frs e2 r2 hn c2 => ?_)
  have hk := KOk.ev e2 rep1 hp k1'
  refine h2 F2 H2 fp2 (v :: vs) zs (fr :: frs) (e1.trans e2) r2 (by rw [List.length_cons, hn]) ⟨hk.1, hk.2, fun ko i gg hi hg a h3 h4 => ?_, c2.rel e1⟩
  subst ko
  have q := CArgs.own c2 hi hg a h4
  have nd := Rep.dom d v fr rep1 a h3
  rcases q.1 with z | z
  · exact nd z
  · exact (k1' a h3).2.1 z
def fMk (cl : Str) (Fx : List D → Fo) (kinds : List Bool) (ar : List Ar) (cs : List CK) (fa : FA) : FE := fun env => (fa env).bind fun ds e =>
  if ((jsOf cs kinds ar).isEmpty || rootsOk cs (jsOf cs kinds ar) e) = true then (match fixA cs ds e kinds ar with
    | some as => (match Fx (.node true (.ins cl []) [] :: as) with
      | .ret .non (m :: ms) => .ok m (backM (jsOf cs kinds ar) ms e)
      | .exc c x (_ :: ms) => .exc c x (backM (jsOf cs kinds ar) ms e)
      | _ => .stuck)
    | none => .stuck) else .stuck
theorem esim_mk {tA : TAK} {fa : FA} {n : Nat} {kw : List Str} {gV : List V → List V → List V} {Fx : List D → Fo} {cl : Str} (ha : KSim K W ε n cs tA fa) (hl : cs.length = n + kw.length) (hgV : ∀ x vs zs, vs.length = n → zs.length = kw.length → gV (x :: vs) zs = x :: arV ar (vs ++ zs)) (nd : (jsOf cs kinds ar).Nodup) :
    ESim K W (ε || !(jsOf cs kinds ar).isEmpty) .own (tMkX (He.ga K cl) (n + 1) kw (spD K (true :: kinds) Fx) gV W tA) (fMk cl Fx kinds ar cs fa) := by
  intro Z F H env σ fp Q r0 hq
  refine ha Z F H env σ fp _ r0 (Post.bind hq orL orLF fun ds e1 h1 F1 H1 fp1 vs zs frs ev r1 hn ca => ?_)
  have hz : zs.length = kw.length := by
    have q := ca.len.2.1
    rw [List.length_append, hn] at q
    omega
  refine ⟨by rw [hn], hz, fun x dx hx hdx ne => ?_⟩
  rw [hgV (.ref x) vs zs hn hz]
  split at h1
  case isFalse => exact h1.elim
  rename_i hr
  cases q : fixA cs ds e1 kinds ar with
  | none => rw [q] at h1; exact h1.elim
  | some as =>
    rw [q] at h1
    have hr' : jsOf cs kinds ar ≠ [] → rootsOk cs (jsOf cs kinds ar) e1 = true := fun z => by
      rw [Bool.or_eq_true] at hr
      rcases hr with hr | hr
      · exact absurd (List.isEmpty_iff.mp hr) z
      · exact hr
    obtain ⟨i1, i2, i3, i4, i5, i6, i7⟩ := fix_ok r1 ca hr' q nd fun j hj => hj
    have hM := muts_M i5
    have g1 : Grow F1 H1 F1 (upd H1 dx (.own x)) := Grow.upd r1.sub hdx
    have hx1 : upd H1 dx (.own x) x = none := by rw [upd_ne (Ne.symm ne)]; exact hx
    have g2 : Grow F1 (upd H1 dx (.own x)) F1 (upd (upd H1 dx (.own x)) x (.ins (He.ga K cl) dx [])) := Grow.upd g1.has hx1
    have g := g1.trans g2
    have hFx : F1 x = none := by
      cases z : F1 x with
      | none => rfl
      | some u => exact absurd hx (r1.sub x u z).ne
    have domA : ∀ gg ∈ frA cs frs fp1 kinds ar, ∀ a ∈ gg, H1 a ≠ none := by
      have key : ∀ {as : List D} {vs : List V} {fs : List (List Addr)}, RepA K F1 H1 as vs fs → ∀ gg ∈ fs, ∀ a ∈ gg, H1 a ≠ none := by
        intro as
        induction as with
        | nil => intro vs fs h gg hg; obtain ⟨rfl, rfl⟩ := h.inv0; cases hg
        | cons d as ih =>
          intro vs fs h gg hg
          obtain ⟨v, ws, f, fs', rfl, rfl, h1, h2⟩ := h.inv
          rcases List.mem_cons.mp hg with rfl | hg
          · exact Rep.dom d v _ h1
          · exact ih h2 gg hg
      exact key i1
    have hx3 : upd (upd H1 dx (.own x)) x (.ins (He.ga K cl) dx []) x = some (.ins (He.ga K cl) dx []) := upd_same
    have grA : ∀ {as : List D} {vs : List V} {fs : List (List Addr)}, RepA K F1 H1 as vs fs → RepA K F1 (upd (upd H1 dx (.own x)) x (.ins (He.ga K cl) dx [])) as vs fs := by
      intro as
      induction as with
      | nil => intro vs fs h; obtain ⟨rfl, rfl⟩ := h.inv0; trivial
      | cons d as ih =>
        intro vs fs h
        obtain ⟨v, ws, f, fs', rfl, rfl, h1, h2⟩ := h.inv
        exact ⟨h1.grow g, ih h2⟩
    have selfR : Rep K F1 (upd (upd H1 dx (.own x)) x (.ins (He.ga K cl) dx [])) (.node true (.ins cl []) []) (.ref x) [x] := by
      rw [Rep]
      exact ⟨x, _, [], [], rfl, rfl, .inl hx3, ⟨rfl, dx, rfl⟩, by simp, (fun z => by cases z), rfl, rfl⟩
    refine ⟨F1, .node true (.ins cl []) [] :: as, [x] :: frA cs frs fp1 kinds ar, g.has, ⟨selfR, grA i1⟩, by rw [List.length_cons, List.length_cons, i3],
      SepL.sep (ks := true :: kinds) ⟨fun gg hg a ha hm => ?_, fun a ha => ?_, i2.grow g.nofz⟩, ?_⟩
    · have e : a = x := by simpa using ha
      subst e
      exact domA gg hg a hm hx
    · have e : a = x := by simpa using ha
      subst e
      exact ⟨hFx, fun o u h => by rw [hx3] at h; cases h⟩
    have MM : ∀ a, MutA (true :: kinds) ([x] :: frA cs frs fp1 kinds ar) a → a = x ∨ ∃ j ∈ jsOf cs kinds ar, a ∈ fp1 j := fun a ⟨i, f, k1, k2, k3⟩ => by
      cases i with
      | zero =>
        simp at k2
        subst k2
        exact .inl (by simpa using k3)
      | succ i => exact .inr (hM a ⟨i, f, by simpa using k1, by simpa using k2, k3⟩)
    have fe2 : ∀ {F' H' : Hp}, FEv F1 (upd (upd H1 dx (.own x)) x (.ins (He.ga K cl) dx [])) (MutA (true :: kinds) ([x] :: frA cs frs fp1 kinds ar)) F' H' → FEv F1 H1 (fun a => ∃ j ∈ jsOf cs kinds ar, a ∈ fp1 j) F' H' := fun {F' H'} e =>
      ⟨fun a o h n => e.keep a o (g.keep a o h) fun z => (MM a z).elim (fun y => by rw [y, hx] at h; cases h) n, e.sub, fun a h1 h2 => by
        rcases e.new a h1 h2 with z | z
        · refine .inl ?_
          cases y : H1 a with
          | none => rfl
          | some o => rw [g.keep a o y] at z; cases z
        · rcases MM a z with y | y
          · exact .inl (by rw [y]; exact hx)
          · exact .inr y, fun a h => e.dom a (g.dom h), e.has, fun a o u h => g.nofz a o u (e.nofz a o u h)⟩
    have ownX : ∀ a, (upd (upd H1 dx (.own x)) x (.ins (He.ga K cl) dx []) a = none ∨ MutA (true :: kinds) ([x] :: frA cs frs fp1 kinds ar) a) → H1 a = none ∨ ∃ j ∈ jsOf cs kinds ar, a ∈ fp1 j := fun a h => by
      rcases h with z | z
      · refine .inl ?_
        cases y : H1 a with
        | none => rfl
        | some o => rw [g.keep a o y] at z; cases z
      · rcases MM a z with y | y
        · exact .inl (by rw [y]; exact hx)
        · exact .inr y
    have h1' : Post K W (ε || !(jsOf cs kinds ar).isEmpty) Z F H env σ fp (fun d env' => ∀ F' H' fp' v fr, Ev (ε || !(jsOf cs kinds ar).isEmpty) F H env fp F' H' env' fp' → R K Z F' H' env' σ fp' → Rep K F' H' d v fr → KOk .own H env fp F' env' fp' fr → Q v H') (match Fx (.node true (.ins cl []) [] :: as) with
      | .ret .non (m :: ms) => .ok m (backM (jsOf cs kinds ar) ms e1)
      | .exc c x (_ :: ms) => .exc c x (backM (jsOf cs kinds ar) ms e1)
      | _ => .stuck) := h1
    cases q2 : Fx (.node true (.ins cl []) [] :: as) with
    | stuck => rw [q2] at h1'; exact h1'.elim
    | ret d ms =>
      rw [q2] at h1'
      cases d with
      | non =>
        cases ms with
        | nil => exact h1'.elim
        | cons m ms =>
          intro F' H' v fr nfs fe rp mu own
          cases rp.1
          refine ⟨rfl, ?_⟩
          obtain ⟨v', ws, f0, nfs', e3, rfl, m1, m2⟩ := mu.rep.inv
          have e3' : (V.ref x :: mvs kinds (arV ar (vs ++ zs))) = v' :: ws := e3
          cases e3'
          have own' : ∀ f ∈ nfs', ∀ a ∈ f, (H1 a = none ∨ ∃ j ∈ jsOf cs kinds ar, a ∈ fp1 j) ∧ F' a = none := fun f hf a ha => by
            obtain ⟨o1, o2⟩ := mu.own f (List.mem_cons_of_mem _ hf) a ha
            exact ⟨ownX a o1, o2⟩
          obtain ⟨fp', b1, b2, b3⟩ := back_ok r1 i4 nd (fe2 fe) (fun a h => h) i7 m2 (fun i j fi fj hij hi hj => mu.apart (i + 1) (j + 1) fi fj (by omega) (by simpa using hi) (by simpa using hj)) own'
          refine h1' F' H' fp' (.ref x) f0 (ev.trans b1) b2 m1 fun a ha => ?_
          obtain ⟨o1, o2⟩ := mu.own f0 (List.mem_cons_self ..) a ha
          have o1' := ownX a o1
          refine ⟨?_, fun z => ?_, o2⟩
          · rcases o1' with z | ⟨j, hj, hm⟩
            · exact .inl (ev.nd z)
            · exact ev.own a ⟨j, i4 j hj, hm⟩
          · rcases b3 a z with ⟨z1, z2⟩ | ⟨f, hf, hm⟩
            · rcases o1' with y | y
              · exact z1 y
              · exact z2 y
            · obtain ⟨y, hy, ey⟩ := List.mem_iff_getElem.mp hf
              exact mu.apart 0 (y + 1) f0 f (by omega) rfl (by simp [hy, ey]) a ha hm
      | _ => exact h1'.elim
    | exc c x2 ms =>
      rw [q2] at h1'
      cases ms with
      | nil => exact h1'.elim
      | cons m ms =>
        intro F' H' dx2 nfs fe rp mu
        obtain ⟨v', ws, f0, nfs', e3, rfl, m1, m2⟩ := mu.rep.inv
        have e3' : (V.ref x :: mvs kinds (arV ar (vs ++ zs))) = v' :: ws := e3
        cases e3'
        have own' : ∀ f ∈ nfs', ∀ a ∈ f, (H1 a = none ∨ ∃ j ∈ jsOf cs kinds ar, a ∈ fp1 j) ∧ F' a = none := fun f hf a ha => by
          obtain ⟨o1, o2⟩ := mu.own f (List.mem_cons_of_mem _ hf) a ha
          exact ⟨ownX a o1, o2⟩
        obtain ⟨fp', b1, b2, b3⟩ := back_ok r1 i4 nd (fe2 fe) (fun a h => h) i7 m2 (fun i j fi fj hij hi hj => mu.apart (i + 1) (j + 1) fi fj (by omega) (by simpa using hi) (by simpa using hj)) own'
        exact h1' F' H' fp' dx2 (ev.trans b1) b2 rp
end
structure DArgs (X : Cx) (W : WX) (ε : Bool) (cs : List CK) (es : List Expr) (f : FA) : Prop where
  ex : ∃ t, PA X es t ∧ CSim X.K W ε cs t f
structure DKw (X : Cx) (W : WX) (ε : Bool) (cs : List CK) (kws : List Keyword) (f : FA) : Prop where
  ex : ∃ t, PK X kws t ∧ CSim X.K W ε cs t f
structure DAll (X : Cx) (W : WX) (ε : Bool) (n : Nat) (ks : List Str) (cs : List CK) (es : List Expr) (kws : List Keyword) (f : FA) : Prop where
  ex : ∃ t, PArgs X es kws ks t ∧ KSim X.K W ε n cs t f
section
variable {X : Cx} {W : WX} {ε ε1 ε2 : Bool} {k : Kd} {e o : Expr} {es : List Expr} {kws : List Keyword} {ks : List Str} {cs cs1 cs2 : List CK} {f : FE} {fa g : FA} {p pos apos kpos : Pos} {x m : Str} {n : Nat}
theorem dg_nil : DArgs X W false [] [] aNil := ⟨_, pa_nil, csim_nil⟩
theorem dg_val (h1 : DE X W ε1 k e f) (h2 : DArgs X W ε2 cs es g) (hp : ε2 = true → ∀ j, k ≠ .bor j := by first | exact fun h => (nomatch h) | exact fun _ j h => (nomatch h)) (hs : starEach (e :: es) X.env = (false, eval e X.env) :: starEach es X.env := by rfl) : DArgs X W (ε1 || ε2) (.val k :: cs) (e :: es) (aCons f g) := by
  obtain ⟨t1, p1, s1⟩ := h1.ex
  obtain ⟨t2, p2, s2⟩ := h2.ex
  exact ⟨_, pa_cons p1 p2 hs, csim_val s1 s2 hp⟩
theorem dg_slot (j : Nat) (h2 : DArgs X W ε2 cs es g) (hN : X.N[j]? = some x := by rfl) (hv : Vis X.env.scope x := by first | exact Or.inl rfl | exact Or.inr (Or.inl rfl) | exact Or.inr (Or.inr rfl)) (hs : starEach (.Name x pos :: es) X.env = (false, eval (.Name x pos) X.env) :: starEach es X.env := by rfl)
    (hd : (x == ("__debug__" : Str)) = false := by decide) (hcd : (x == ("__classdict__" : Str)) = false := by decide) : DArgs X W ε2 (.slot j :: cs) (.Name x pos :: es) (aCons (fSlot j) g) := by
  obtain ⟨t2, p2, s2⟩ := h2.ex
  exact ⟨_, pa_cons (pe_var hN hv hd hcd) p2 hs, csim_slot s2⟩
theorem dkw_nil : DKw X W false [] [] aNil := ⟨_, pk_nil, csim_nil⟩
theorem dkw_val {nm : Option Str} (h1 : DE X W ε1 k e f) (h2 : DKw X W ε2 cs kws g) (hp : ε2 = true → ∀ j, k ≠ .bor j := by first | exact fun h => (nomatch h) | exact fun _ j h => (nomatch h)) : DKw X W (ε1 || ε2) (.val k :: cs) (⟨nm, e, kpos⟩ :: kws) (aCons f g) := by
  obtain ⟨t1, p1, s1⟩ := h1.ex
  obtain ⟨t2, p2, s2⟩ := h2.ex
  exact ⟨_, pk_cons p1 p2, csim_val s1 s2 hp⟩
theorem dall_nil : DAll X W false 0 [] [] [] [] aNil := ⟨_, pargs_nil, ksim_nil⟩
theorem dall_pos (h : DArgs X W ε cs (e :: es) fa) (he : starEach (e :: es) X.env = (false, eval e X.env) :: starEach es X.env := by rfl) (hpl : ∀ pos, (backTo pos (starEach es X.env)).any (·.1) = false := by exact fun _ => rfl) : DAll X W ε cs.length [] cs (e :: es) [] fa := by
  obtain ⟨t, q, s⟩ := h.ex
  exact ⟨_, pargs_pos q he hpl, ksim_pos s⟩
theorem dall_kw (h : DKw X W ε cs kws fa) (hall : ∀ pos, (backToKw pos (keywordEach kws X.env)).all (·.1.isSome) = true := by exact fun _ => rfl) (hks : ∀ pos, (backToKw pos (keywordEach kws X.env)).filterMap (·.1) = ks := by exact fun _ => rfl)
    (hpl : ∀ pos, ((backTo pos (starEach [] X.env)).any (·.1) || (backToKw pos (keywordEach kws X.env)).any (·.1.isNone)) = false := by exact fun _ => rfl) : DAll X W ε 0 ks cs [] kws fa := by
  obtain ⟨t, q, s⟩ := h.ex
  exact ⟨_, pargs_kw q hall hks hpl, ksim_kw s⟩
theorem dall_both (h : DArgs X W ε1 cs1 (e :: es) fa) (h2 : DKw X W ε2 cs2 kws g) (hp : ε2 = true → cs1.all CK.prot = true := by first | exact fun h => (nomatch h) | exact fun _ => rfl) (hall : ∀ pos, (backToKw pos (keywordEach kws X.env)).all (·.1.isSome) = true := by exact fun _ => rfl) (hks : ∀ pos, (backToKw pos (keywordEach kws X.env)).filterMap (·.1) = ks := by exact fun _ => rfl)
    (he : starEach (e :: es) X.env = (false, eval e X.env) :: starEach es X.env := by rfl) (hpl : ∀ pos, ((backTo pos (starEach (e :: es) X.env)).any (·.1) || (backToKw pos (keywordEach kws X.env)).any (·.1.isNone)) = false := by exact fun _ => rfl) : DAll X W (ε1 || ε2) cs1.length ks (cs1 ++ cs2) (e :: es) kws (aApp fa g) := by
  obtain ⟨t, q, s⟩ := h.ex
  obtain ⟨t2, q2, s2⟩ := h2.ex
  exact ⟨_, pargs_both q q2 hall hks he hpl, ksim_app s s2 hp⟩
variable {kinds : List Bool} {ar : List Ar} {Fx : List D → Fo} {kk : Nat} {fd : FuncData} {ps : List Str} {fA C : Addr} {gG : List Value → List Value → List Value} {gV : List V → List V → List V}
theorem de_call (FO : FnOk X.prog X.w X.K X.mg X.base (L2.CX X.prog X.w) kk fA fd ps (spD X.K kinds Fx)) (hr : Room kk X.A) (hm : X.mg x = some (.ref fA)) (hk : PySem.W.keepIn X.K (.ref fA) = true) (hb : KBn X.K fd ps n ks gG gV) (tk : Takes X W) (ha : DAll X W ε n ks cs es kws fa)
    (hgV : ∀ vs zs, vs.length = n → zs.length = ks.length → gV vs zs = arV ar (vs ++ zs)) (hl : cs.length = n + ks.length := by rfl) (nd : (jsOf cs kinds ar).Nodup := by decide) (hg : Gl X x := by rfl) (hdb : (x == ("__debug__" : Str)) = false := by decide) :
    DE X W (ε || !(jsOf cs kinds ar).isEmpty) .own (.Call (.Name x p) es kws pos) (fCall Fx kinds ar cs fa) := by
  obtain ⟨t, q, s⟩ := ha.ex
  exact ⟨_, pe_cl FO hr hg hm hk hb tk q hdb, esim_call s hl hgV nd⟩
theorem de_mth {cl : Str} {pl : Sem Bool} (he : DE X W ε1 k o f) (hC : Cls X.K (He.ga X.K cl)) (hM : Meth X.K (He.ga X.K cl) m fA) (FO : FnOk X.prog X.w X.K X.mg X.base (L2.CX X.prog X.w) kk fA fd ps (spD X.K kinds Fx)) (hr : Room kk X.A) (hb : KBn X.K fd ps (n + 1) ks gG gV) (tk : Takes X W) (ha : DAll X W ε2 n ks cs es kws fa)
    (hgV : ∀ vs zs, vs.length = n + 1 → zs.length = ks.length → gV vs zs = arV ar (vs ++ zs)) (hp : ε2 = true → ∀ j, k ≠ .bor j := by first | exact fun h => (nomatch h) | exact fun _ j h => (nomatch h)) (hl : (CK.val k :: cs).length = n + 1 + ks.length := by rfl) (nd : (jsOf (CK.val k :: cs) kinds ar).Nodup := by decide)
    (ht : eval (.Call (.Attribute o m apos) es kws pos) X.env = (do
      let ov ← eval o X.env
      standAt apos.atName
      let (f, first) ← holding [ov] (getMethod ov m pl)
      callWith pos f first (backTo pos (starEach es X.env)) (backToKw pos (keywordEach kws X.env))) := by rfl) :
    DE X W (ε1 || ε2 || !(jsOf (CK.val k :: cs) kinds ar).isEmpty) .own (.Call (.Attribute o m apos) es kws pos) (fCall Fx kinds ar (.val k :: cs) (fRcv cl m f fa)) := by
  obtain ⟨t, q, s⟩ := ha.ex
  obtain ⟨te, p1, s1⟩ := he.ex
  exact ⟨_, pe_mt p1 hC hM FO hr hb tk q ht, esim_call (msim_val s1 s hp) hl hgV nd⟩
theorem de_make (cl : Str) (MK : Mk X.K (He.ga X.K cl) fA) (FO : FnOk X.prog X.w X.K X.mg X.base (L2.CX X.prog X.w) kk fA fd ps (spD X.K (true :: kinds) Fx)) (hr : Room (kk + 1) X.A) (hm : X.mg x = some (.ref (He.ga X.K cl))) (hb : KBn X.K fd ps (n + 1) ks gG gV) (tk : Takes X W) (ha : DAll X W ε n ks cs es kws fa)
    (hgV : ∀ x vs zs, vs.length = n → zs.length = ks.length → gV (x :: vs) zs = x :: arV ar (vs ++ zs)) (hl : cs.length = n + ks.length := by rfl) (nd : (jsOf cs kinds ar).Nodup := by decide) (hg : Gl X x := by rfl) (hdb : (x == ("__debug__" : Str)) = false := by decide) :
    DE X W (ε || !(jsOf cs kinds ar).isEmpty) .own (.Call (.Name x p) es kws pos) (fMk cl Fx kinds ar cs fa) := by
  obtain ⟨t, q, s⟩ := ha.ex
  exact ⟨_, pe_mkX MK FO hr hg hm hb tk q hdb, esim_mk s hl hgV nd⟩
end
end DL
namespace DL
open PySem PySem.Spec L2
def lockE (i : Nat) (env : Evn) : Evn := match env[i]? with
  | some (.own d) => env.set i (.bor (some i) d)
  | _ => env
def unlkE (i : Nat) (env : Evn) : Evn := match env[i]? with
  | some (.bor _ d) => env.set i (.own d)
  | _ => env
section
variable {K : PySem.W.Frag} {W : WX} {ε ε1 ε2 : Bool} {F H F1 H1 F2 H2 F' H' F0 H0 : Hp} {env env1 env2 env' env0 : Evn} {fp fp1 fp2 fp' fp0 : Fp} {Z : Zst} {σ : L2.St} {k k1 k2 : Kd} {ks : List Kd}
theorem SlotR.holds {j : Nat} (h : SlotR K Z F H env σ fp j) (e : env2[j]? = env[j]?) (hh : ∀ m, hold env m → hold env2 m) : SlotR K Z F H env2 σ fp j := by
  unfold SlotR at h ⊢
  rw [e]
  cases q : env[j]? with
  | none => trivial
  | some t =>
    rw [q] at h
    cases t with
    | dead => trivial
    | own d => exact h
    | bor m d =>
      cases m with
      | none => exact h
      | some m =>
        obtain ⟨v, h1, h2, h3, h4⟩ := h
        exact ⟨v, h1, h2, hh m h3, h4⟩
theorem set_get {α : Type} {l : List α} {i j : Nat} {x y : α} (h : l[i]? = some x) : (l.set i y)[j]? = if j = i then some y else l[j]? := by
  have hi := (List.getElem?_eq_some_iff.mp h).1
  by_cases e : j = i
  · subst e; rw [if_pos rfl, List.getElem?_set_self hi]
  · rw [if_neg e, List.getElem?_set_ne (Ne.symm e)]
theorem lock_own {i j : Nat} {d : D} (h : env[i]? = some (.own d)) : isOwn (env.set i (.bor (some i) d)) j ↔ isOwn env j ∧ j ≠ i := by
  unfold isOwn
  rw [set_get h]
  by_cases e : j = i
  · rw [if_pos e]; simp [e]
  · rw [if_neg e]; simp [e]
theorem lock_lk {i j : Nat} {d : D} (h : env[i]? = some (.own d)) : isLk (env.set i (.bor (some i) d)) j ↔ isLk env j ∨ j = i := by
  unfold isLk
  rw [set_get h]
  by_cases e : j = i
  · subst e; rw [if_pos rfl]; simp
  · rw [if_neg e]; simp [e]
theorem lock_hold {i j : Nat} {d : D} (h : env[i]? = some (.own d)) : hold (env.set i (.bor (some i) d)) j ↔ hold env j := by
  unfold hold
  rw [lock_own h, lock_lk h]
  constructor
  · rintro (⟨a, _⟩ | a | rfl)
    · exact .inl a
    · exact .inr a
    · exact .inl ⟨d, h⟩
  · rintro (a | a)
    · by_cases e : j = i
      · exact .inr (.inr e)
      · exact .inl ⟨a, e⟩
    · exact .inr (.inl a)
theorem R.lock {i : Nat} {d : D} (r : R K Z F H env σ fp) (h : env[i]? = some (.own d)) : R K Z F H (env.set i (.bor (some i) d)) σ fp where
  sub := r.sub
  slot := fun j => by
    by_cases e : j = i
    · subst e
      have s := r.slot j
      unfold SlotR at s ⊢
      rw [h] at s
      rw [set_get h, if_pos rfl]
      obtain ⟨v, s1, s2⟩ := s
      exact ⟨v, s1, s2, (lock_hold h).mpr (.inl ⟨d, h⟩), fun a ha => ha⟩
    · exact (r.slot j).holds (by rw [set_get h, if_neg e]) fun m hm => (lock_hold h).mpr hm
  sep := fun a b hab ha hb => r.sep a b hab ((lock_hold h).mp ha) ((lock_hold h).mp hb)
  sepB := fun a ha => r.sepB a ((lock_hold h).mp ha)
  hF := fun a ha => r.hF a ((lock_hold h).mp ha)
  domB := r.domB
  pin := r.pin
  gh := r.gh
  len := by rw [List.length_set]; exact r.len
  nf := fun j hj => r.nf j ((lock_own h).mp hj).1
theorem unlk_own {i j : Nat} {d : D} (h : env[i]? = some (.bor (some i) d)) : isOwn (env.set i (.own d)) j ↔ isOwn env j ∨ j = i := by
  unfold isOwn
  rw [set_get h]
  by_cases e : j = i
  · subst e; rw [if_pos rfl]; simp
  · rw [if_neg e]; simp [e]
theorem unlk_lk {i j : Nat} {d : D} (h : env[i]? = some (.bor (some i) d)) : isLk (env.set i (.own d)) j ↔ isLk env j ∧ j ≠ i := by
  unfold isLk
  rw [set_get h]
  by_cases e : j = i
  · subst e; rw [if_pos rfl]; simp
  · rw [if_neg e]; simp [e]
theorem unlk_hold {i j : Nat} {d : D} (h : env[i]? = some (.bor (some i) d)) : hold (env.set i (.own d)) j ↔ hold env j := by
  unfold hold
  rw [unlk_own h, unlk_lk h]
  constructor
  · rintro ((a | rfl) | ⟨a, _⟩)
    · exact .inl a
    · exact .inr ⟨d, h⟩
    · exact .inr a
  · rintro (a | a)
    · exact .inl (.inl a)
    · by_cases e : j = i
      · exact .inl (.inr e)
      · exact .inr ⟨a, e⟩
theorem R.unlk {i : Nat} {d : D} (r : R K Z F H env σ fp) (h : env[i]? = some (.bor (some i) d)) (nf : ∀ a ∈ fp i, NF H a) : R K Z F H (env.set i (.own d)) σ fp where
  sub := r.sub
  slot := fun j => by
    by_cases e : j = i
    · subst e
      have s := r.slot j
      unfold SlotR at s ⊢
      rw [h] at s
      rw [set_get h, if_pos rfl]
      obtain ⟨v, s1, s2, _⟩ := s
      exact ⟨v, s1, s2⟩
    · exact (r.slot j).holds (by rw [set_get h, if_neg e]) fun m hm => (unlk_hold h).mpr hm
  sep := fun a b hab ha hb => r.sep a b hab ((unlk_hold h).mp ha) ((unlk_hold h).mp hb)
  sepB := fun a ha => r.sepB a ((unlk_hold h).mp ha)
  hF := fun a ha => r.hF a ((unlk_hold h).mp ha)
  domB := r.domB
  pin := r.pin
  gh := r.gh
  len := by rw [List.length_set]; exact r.len
  nf := fun j hj => by
    rcases (unlk_own h).mp hj with hj | hj
    · exact r.nf j hj
    · rw [hj]; exact nf
theorem Ev.lock {i : Nat} {d : D} (h : env[i]? = some (.own d)) (e : Ev ε F H (env.set i (.bor (some i) d)) fp F' H' env' fp') :
    env'[i]? = some (.bor (some i) d) ∨ (∀ d', env'[i]? ≠ some (.bor (some i) d')) := by
  by_cases z : DL.isLk env' i
  · obtain ⟨a1, _⟩ := e.lks i z
    rw [set_get h, if_pos rfl] at a1
    exact .inl a1
  · exact .inr fun d' q => z ⟨d', q⟩
theorem Ev.unlk {i : Nat} {d : D} (h : env[i]? = some (.own d)) (e : Ev ε F H (env.set i (.bor (some i) d)) fp F' H' env' fp') (h' : env'[i]? = some (.bor (some i) d)) : Ev ε F H env fp F' H' (env'.set i (.own d)) fp' := by
  have oL : ∀ a, OwnA (env.set i (.bor (some i) d)) fp a → OwnA env fp a := fun a ⟨j, hj, ha⟩ => ⟨j, ((lock_own h).mp hj).1, ha⟩
  have hi : DL.isLk env' i := ⟨d, h'⟩
  refine ⟨fun a o x y => e.keep a o x fun z w => y z (oL a w), e.sub, fun a x y => (e.new a x y).imp id fun z => ⟨z.1, oL a z.2⟩, fun a ⟨j, hj, ha⟩ => ?_, fun j hj => ?_, e.nofz, e.dom, fun z => ?_⟩
  · rcases (unlk_own h').mp hj with hj | rfl
    · exact (e.own a ⟨j, hj, ha⟩).imp id (oL a)
    · exact .inr ⟨j, ⟨d, h⟩, by rw [← (e.lks j hi).2]; exact ha⟩
  · obtain ⟨h1, h2⟩ := (unlk_lk h').mp hj
    obtain ⟨a1, a2⟩ := e.lks j h1
    rw [set_get h, if_neg h2] at a1
    rw [set_get h', if_neg h2]
    exact ⟨a1, a2⟩
  · obtain ⟨a1, a2⟩ := e.pure z
    refine ⟨?_, a2⟩
    rw [a1, List.set_set]
    apply List.ext_getElem?
    intro j
    rw [set_get h]
    by_cases q : j = i
    · rw [if_pos q, q, h]
    · rw [if_neg q]
end
section
variable (K : PySem.W.Frag)
structure Foc (F H : Hp) (v : V) (fp : List Addr) (w : V) (fs : List Addr) (sub : D) (g : D → D) : Prop where
  rep : Rep K F H sub w fs
  sub : ∀ a ∈ fs, a ∈ fp
  put : ∀ F' H' sub' fs', (∀ a u, F a = some u → F' a = some u) → (∀ a ∈ fp, a ∉ fs → ∀ u, Has H a u → Has H' a u) → Rep K F' H' sub' w fs' → (∀ a ∈ fs', a ∈ fp → a ∈ fs) → sub'.frz = false →
    (g sub').frz = false ∧ ∃ fp', Rep K F' H' (g sub') v fp' ∧ ∀ a, a ∈ fp' → (a ∈ fp ∧ a ∉ fs) ∨ a ∈ fs'
end
section
variable {K : PySem.W.Frag} {F H F' H' : Hp} {v w : V} {fp fs : List Addr} {sub d c : D} {g : D → D}
theorem Foc.root (h : Rep K F H d v fp) : Foc K F H v fp v fp d id :=
  ⟨h, fun _ h => h, fun F' H' sub' fs' _ _ h _ z => ⟨z, fs', h, fun a ha => .inr ha⟩⟩
theorem Foc.mono (h : Foc K F H v fp w fs sub g) (hF : ∀ a u, F a = some u → F' a = some u) (hH : ∀ a ∈ fp, ∀ u, Has H a u → Has H' a u) : Foc K F' H' v fp w fs sub g :=
  ⟨Rep.mono hF sub w fs (fun a ha => hH a (h.sub a ha)) h.rep, h.sub, fun F2 H2 sub' fs' h1 h2 h3 h4 h5 => h.put F2 H2 sub' fs' (fun a u q => h1 a u (hF a u q)) (fun a ha n u q => h2 a ha n u (hH a ha u q)) h3 h4 h5⟩
theorem frzL_set : ∀ (xs : List D) (n : Nat) (c : D), c.frz = false → n < xs.length → frzL (xs.set n c) = false
  | [], n, c, h, hn => by simp at hn
  | x :: xs, 0, c, h, hn => by simp [frzL, h]
  | x :: xs, n + 1, c, h, hn => by
    rw [List.set_cons_succ, frzL, frzL_set xs n c h (by simpa using hn)]
    simp
theorem RepL.foc : ∀ (ds : List D) (vs : List V) (fp : List Addr) (n : Nat) (d : D), RepL K F H ds vs fp → ds[n]? = some d → ∃ (x : V) (fc : List Addr), vs[n]? = some x ∧ Rep K F H d x fc ∧ (∀ a ∈ fc, a ∈ fp) ∧
    ∀ F' H' d' fc', (∀ a u, F a = some u → F' a = some u) → (∀ a ∈ fp, a ∉ fc → ∀ u, Has H a u → Has H' a u) → Rep K F' H' d' x fc' → (∀ a ∈ fc', a ∈ fp → a ∈ fc) → ∃ fp', RepL K F' H' (ds.set n d') vs fp' ∧ ∀ a, a ∈ fp' → (a ∈ fp ∧ a ∉ fc) ∨ a ∈ fc'
  | [], vs, fp, n, d, h, e => by simp at e
  | c :: ds, vs, fp, 0, d, h, e => by
    simp at e
    subst e
    simp only [RepL] at h
    obtain ⟨v, ws, f1, f2, rfl, rfl, h1, h2, h3⟩ := h
    refine ⟨v, f1, rfl, h2, fun a ha => List.mem_append_left _ ha, fun F' H' d' fc' hF hH hd hc => ?_⟩
    have h3' := RepL.mono hF ds ws f2 (fun a ha u q => hH a (List.mem_append_right _ ha) (fun z => h1 a z ha) u q) h3
    refine ⟨fc' ++ f2, RepL.mk (fun a ha hm => ?_) hd h3', fun a ha => ?_⟩
    · exact h1 a (hc a ha (List.mem_append_right _ hm)) hm
    · rcases List.mem_append.mp ha with ha | ha
      · exact .inr ha
      · exact .inl ⟨List.mem_append_right _ ha, fun z => h1 a z ha⟩
  | c :: ds, vs, fp, n + 1, d, h, e => by
    simp only [RepL] at h
    obtain ⟨v, ws, f1, f2, rfl, rfl, h1, h2, h3⟩ := h
    obtain ⟨x, fc, e1, e2, e3, e4⟩ := RepL.foc ds ws f2 n d h3 (by simpa using e)
    refine ⟨x, fc, by simpa using e1, e2, fun a ha => List.mem_append_right _ (e3 a ha), fun F' H' d' fc' hF hH hd hc => ?_⟩
    obtain ⟨fp', q1, q2⟩ := e4 F' H' d' fc' hF (fun a ha => hH a (List.mem_append_right _ ha)) hd (fun a ha hm => hc a ha (List.mem_append_right _ hm))
    have h2' := Rep.mono hF c v f1 (fun a ha u q => hH a (List.mem_append_left _ ha) (fun z => h1 a ha (e3 a z)) u q) h2
    refine ⟨f1 ++ fp', RepL.mk (fun a ha hm => ?_) h2' q1, fun a ha => ?_⟩
    · rcases q2 a hm with z | z
      · exact h1 a ha z.1
      · exact h1 a ha (e3 a (hc a z (List.mem_append_left _ ha)))
    · rcases List.mem_append.mp ha with ha | ha
      · exact .inl ⟨List.mem_append_left _ ha, fun z => h1 a ha (e3 a z)⟩
      · exact (q2 a ha).imp (fun z => ⟨List.mem_append_right _ z.1, z.2⟩) id
theorem Foc.child {s : Sh} {xs : List D} {n : Nat} (h : Foc K F H v fp w fs (.node true s xs) g) (e : xs[n]? = some c) :
    ∃ (a : Addr) (u : HO) (vs : List V) (x : V) (fc : List Addr), w = .ref a ∧ a ∈ fs ∧ Has H a u ∧ IsN K s vs u ∧ vs[n]? = some x ∧ Foc K F H v fp x fc c (fun c' => g (.node true s (xs.set n c'))) := by
  have r := h.rep
  simp only [Rep] at r
  obtain ⟨a, u, vs, fq, rfl, rfl, h1, h2, h3, h4, h5⟩ := r
  obtain ⟨x, fc, e1, e2, e3, e4⟩ := RepL.foc xs vs fq n c h5 e
  have hn : n < xs.length := (List.getElem?_eq_some_iff.mp e).1
  refine ⟨a, u, vs, x, fc, rfl, List.mem_cons_self .., h1, h2, e1, ⟨e2, fun b hb => h.sub b (List.mem_cons_of_mem _ (e3 b hb)), fun F' H' c' fc' hF hH hc hd hz => ?_⟩⟩
  have ha : a ∉ fc := fun z => h3 (e3 a z)
  have hup := h.sub
  obtain ⟨fq', q1, q2⟩ := e4 F' H' c' fc' hF (fun b hb n => hH b (hup b (List.mem_cons_of_mem _ hb)) n) hc fun b hb hm => hd b hb (hup b (List.mem_cons_of_mem _ hm))
  have han : a ∉ fq' := fun z => by
    rcases q2 a z with y | y
    · exact h3 y.1
    · exact ha (hd a y (hup a (List.mem_cons_self ..)))
  have rp : Rep K F' H' (.node true s (xs.set n c')) (.ref a) (a :: fq') := by
    rw [Rep]
    exact ⟨a, u, vs, fq', rfl, rfl, hH a (hup a (List.mem_cons_self ..)) ha u h1, h2, han, fun _ => frzL_set xs n c' hz hn, q1⟩
  have hcl : ∀ b ∈ a :: fq', b ∈ fp → b ∈ a :: fq := fun b hb hm => by
    rcases List.mem_cons.mp hb with rfl | hb
    · exact List.mem_cons_self ..
    · rcases q2 b hb with y | y
      · exact List.mem_cons_of_mem _ y.1
      · exact List.mem_cons_of_mem _ (e3 b (hd b y hm))
  obtain ⟨p1, fp', p2, p3⟩ := h.put F' H' _ _ hF (fun b hb n => hH b hb fun z => n (List.mem_cons_of_mem _ (e3 b z))) rp hcl rfl
  refine ⟨p1, fp', p2, fun b hb => ?_⟩
  rcases p3 b hb with z | z
  · refine .inl ⟨z.1, fun y => z.2 (List.mem_cons_of_mem _ (e3 b y))⟩
  · rcases List.mem_cons.mp z with rfl | z
    · exact .inl ⟨hup _ (List.mem_cons_self ..), ha⟩
    · rcases q2 b z with y | y
      · exact .inl ⟨hup b (List.mem_cons_of_mem _ y.1), y.2⟩
      · exact .inr y
end
end DL
namespace DL
open PySem PySem.Spec L2
open PyProof.Rows (subscriptTail)
abbrev FP := Evn → Option (D × (D → D))
def PlSim (K : PySem.W.Frag) (i : Nat) (t : TE) (p : FP) : Prop := ∀ Z F H env σ fp v sub g Q, R K Z F H env σ fp → isOwn env i → σ[i]? = some (some v) → p env = some (sub, g) →
  (∀ F' H' w fs, Grow F H F' H' → Foc K F' H' v (fp i) w fs sub g → Q w H') → t σ H Q
structure DPl (X : Cx) (i : Nat) (e : Expr) (p : FP) : Prop where
  ex : ∃ t, PE X e t ∧ PlSim X.K i t p
  own : ∀ env x, p env = some x → ∃ d, env[i]? = some (.own d)
section
variable {K : PySem.W.Frag} {W : WX} {ε ε1 ε2 : Bool} {F H F1 H1 F2 H2 F' H' F0 H0 : Hp} {env env1 env2 env' env0 : Evn} {fp fp1 fp2 fp' fp0 : Fp} {Z : Zst} {σ : L2.St} {k k1 k2 : Kd} {ks : List Kd}
theorem Ev.grow (e : Ev false F H env fp F' H' env' fp') (r : R K Z F' H' env' σ fp') : Grow F H F' H' :=
  ⟨fun a o h => e.keep a o h (fun z => by cases z), e.sub, fun a h n => (e.new a h n).resolve_right (fun z => by cases z.1), r.sub, e.nofz⟩
def posK {κ : Type} [DecidableEq κ] : List κ → κ → Option Nat
  | [], _ => none
  | k :: ks, k' => if k = k' then some 0 else (posK ks k').map (· + 1)
theorem look_pos {κ α : Type} [DecidableEq κ] {k : κ} : ∀ {ks : List κ} {vs : List α} {n : Nat}, posK ks k = some n → look ks vs k = vs[n]?
  | [], vs, n, h => by cases h
  | g :: ks, vs, n, h => by
    unfold posK at h
    by_cases z : g = k
    · rw [if_pos z] at h
      cases h
      cases vs with
      | nil => rfl
      | cons v vs => simp [look, z]
    · rw [if_neg z, Option.map_eq_some_iff] at h
      obtain ⟨m, h1, rfl⟩ := h
      cases vs with
      | nil => rfl
      | cons v vs => simp [look, z, look_pos h1]
def atIx (s : Sh) (n : Nat) (k : D) : Option Nat := match s with
  | .lst => (match k with | .int i => ixN n i | _ => none)
  | .tup => (match k with | .int i => ixN n i | _ => none)
  | .dic ks => (keyD k).bind (posK ks)
  | .dit ks => (match k with | .node _ .tup ys => (keysD ys).bind (posK ks) | _ => none)
  | _ => none
def subAt (c : Option Nat) : D × (D → D) → Option (D × (D → D))
  | (.node true s xs, g) => c.bind fun n => (xs[n]?).map fun d => (d, fun d' => g (.node true s (xs.set n d')))
  | _ => none
def pVar (i : Nat) : FP := fun env => match env[i]? with
  | some (.own d) => some (d, id)
  | _ => none
def pIx (p : FP) (fi : FE) : FP := fun env => (p env).bind fun x => match x, fi env with
  | (.node true s xs, g), .ok k _ => subAt (atIx s xs.length k) (.node true s xs, g)
  | _, _ => none
theorem plsim_var {i : Nat} : PlSim K i (tVar i) (pVar i) := fun Z F H env σ fp v sub g Q r ho hv h hq => by
  unfold pVar at h
  cases q : env[i]? with
  | none => rw [q] at h; cases h
  | some t =>
    rw [q] at h
    cases t with
    | dead => cases h
    | bor _ _ => cases h
    | own d =>
      cases h
      have s := r.slot i
      unfold SlotR at s
      rw [q] at s
      obtain ⟨v', s1, s2⟩ := s
      rw [hv] at s1
      cases s1
      exact ⟨v, hv, hq F H v (fp i) (Grow.refl r.sub) (.root s2)⟩
section
variable {X : Cx} {i : Nat} {e ie : Expr} {p : FP} {fi : FE} {pos : Pos} {f : Str}
theorem pl_var (i : Nat) {x : Str} (hN : X.N[i]? = some x := by rfl) (hv : Vis X.env.scope x := by first | exact Or.inl rfl | exact Or.inr (Or.inl rfl) | exact Or.inr (Or.inr rfl)) (hd : (x == ("__debug__" : Str)) = false := by decide)
    (hcd : (x == ("__classdict__" : Str)) = false := by decide) : DPl X i (.Name x pos) (pVar i) := ⟨⟨_, pe_var hN hv hd hcd, plsim_var⟩, fun env x h => by
  unfold pVar at h
  split at h
  · rename_i d q
    exact ⟨d, q⟩
  · cases h⟩
end
end
section
variable {X : Cx}
def rGet (K : PySem.W.Frag) : R2 := fun x y H Q => rIx K x y H Q ∨ ∃ a v, x = .ref a ∧ DGet H a y (some v) ∧ Q v H
theorem ix_dictR (hu : X.A.units + 1 < cLine) : IxR X (fun x y H Q => ∃ a v, x = .ref a ∧ DGet H a y (some v) ∧ Q v H) := by
  intro value slice pins s σ H x y v u Q I rx ry ⟨a, w, ex, g, q⟩ hs
  subst ex
  obtain rfl : v = Value.ref a := rx
  have hT := dict_typeIs I g
  have hl := PySem.F.slot_dict_getitem.lookup
  have h₂ := d_getItem (E := X.xe) hu I g ry fun w' s3 I3 rw' => show EP X pins σ Q w' s3 from ⟨w, H, I3, rw', q⟩
  unfold subscriptTail
  refine wpAny_bind ?_
  rw [getitemInPython_of_ne hT.not_modules]
  refine wpAny_bind (wpAny_specialOf hT hl ?_)
  have fin : wpAny (model X.prog X.w) X.A (subscripted slice false (Value.ref a) u) (fun r s₃ => wpAny (model X.prog X.w) X.A (letTemporaryGo value (Value.ref a) r >>= fun _ => pure r) (EP X pins σ Q) X.xe s₃) X.xe s := by
    rw [hs]
    exact wpAny_operating (wpAny_mono h₂ (fun r s₃ h₃ => wpAny_bind (wpAny_letTemporaryGo (wpAny_pure h₃))) fun _ _ x => x)
  first
    | exact wpAny_pure (wpAny_bind fin)
    | exact wpAny_bind (wpAny_pure (wpAny_bind fin))
    | exact wpAny_bind fin
theorem ix_any (hu : X.A.units + 1 < cLine) : IxR X (rGet X.K) := ix_seq.or (ix_dictR hu)
end
end DL
namespace DL
open PySem PySem.Spec L2
section
variable {X : Cx} {W : WX} {ε ε1 ε2 : Bool} {k k1 k2 : Kd} {ks : List Kd} {a b e ie : Expr} {fa fb fi : FE} {i : Nat} {p : FP} {pos : Pos}
def oItm : List D → Option D := fun ds => match ds with
  | [.node o (.dic ks) xs, k] => oGet [.node o (.dic ks) xs, k]
  | [.node o (.dit ks) xs, k] => oGet [.node o (.dit ks) xs, k]
  | ds => oIx ds
theorem ok_itm {K : PySem.W.Frag} : AccOk K (l2 (rGet K)) oItm := by
  intro F H ds vs fr0 frs d Q hs rep e q
  have imp : ∀ {r1 r2 : R2} {vs}, (∀ x y, r1 x y H Q → r2 x y H Q) → l2 r1 vs H Q → l2 r2 vs H Q := by
    intro r1 r2 vs h x
    match vs, x with
    | [x, y], z => exact h x y z
  unfold oItm at e
  split at e
  · exact imp (fun x y h => .inr h) (ok_get F H _ vs fr0 frs d Q hs rep e q)
  · exact imp (fun x y h => .inr h) (ok_get F H _ vs fr0 frs d Q hs rep e q)
  · exact imp (fun x y h => .inl h) (ok_ix F H _ vs fr0 frs d Q hs rep e q)
theorem de_sub (hu : X.A.units + 1 < cLine) (ha : DE X W ε1 k1 a fa) (hb : DE X W ε2 k2 b fb) (hs : PlainIx b := by exact fun _ _ => rfl) (hp : ε2 = true → ∀ j, k1 ≠ .bor j := by first | exact fun h => (nomatch h) | exact fun _ j h => (nomatch h)) :
    DE X W (ε1 || (ε2 || false)) k1 (.Subscript a b pos) (fOp oItm (aCons fa (aCons fb aNil))) := by
  obtain ⟨ta, tb, p1, p2, s⟩ := da_two ha hb hp
  exact ⟨_, pe_ix (ix_any hu) p1 p2 hs, esim_acc s ok_itm fun σ H Q h => h⟩
theorem pl_ix {i : Nat} (hu : X.A.units + 1 < cLine) (h : DPl X i e p) (hi : DE X W false k ie fi) (hs : PlainIx ie := by exact fun _ _ => rfl) : DPl X i (.Subscript e ie pos) (pIx p fi) := by
  obtain ⟨t, p1, s1⟩ := h.ex
  obtain ⟨t2, p2, s2⟩ := hi.ex
  refine ⟨⟨_, pe_ix (ix_any hu) p1 p2 hs, fun Z F H env σ fp v sub g Q r ho hv h hq => ?_⟩, fun env x h0 => by
    unfold pIx at h0
    rw [Option.bind_eq_some_iff] at h0
    obtain ⟨y, h1, _⟩ := h0
    exact h.own env y h1⟩
  unfold pIx at h
  rw [Option.bind_eq_some_iff] at h
  obtain ⟨⟨d0, g0⟩, h1, h2⟩ := h
  refine s1 Z F H env σ fp v d0 g0 _ r ho hv h1 fun F1 H1 w fs gr foc => ?_
  have r1 := r.grow gr
  cases d0 with
  | node o s xs =>
    cases o with
    | false => cases h2
    | true =>
      cases q : fi env with
      | exc _ _ _ => rw [q] at h2; cases h2
      | stuck => rw [q] at h2; cases h2
      | ok kd e1 =>
        simp only [q] at h2
        unfold subAt at h2
        rw [Option.bind_eq_some_iff] at h2
        obtain ⟨n, h3, h4⟩ := h2
        rw [Option.map_eq_some_iff] at h4
        obtain ⟨c0, h5, h6⟩ := h4
        cases h6
        refine s2 Z F1 H1 env σ fp _ r1 ?_
        rw [q]
        intro F2 H2 fp2 y fy ev r2 rp ko
        have g2 := ev.grow r2
        have foc2 := foc.mono g2.sub fun b hb u hu => hu.same fun o ho => g2.keep b o ho
        obtain ⟨a, u, vs, x, fc, rfl, ha, hu', hi, hx, foc'⟩ := foc2.child h5
        have fin := hq F2 H2 x fc (gr.trans g2) foc'
        unfold atIx at h3
        have hlen : ∀ {vs : List V}, vs.length = xs.length → L2.atI vs = fun j => (ixN xs.length j).bind fun n => vs[n]? := by
          intro vs hl
          funext j
          unfold L2.atI
          rw [hl]
        have rl := foc2.rep
        simp only [Rep] at rl
        obtain ⟨a', u'', vs', fq', ea, _, hu2, hi2, _, _, rl⟩ := rl
        cases ea
        cases s with
        | tup =>
          cases kd with
          | int j =>
            have hi' : u = .tup vs := hi
            subst hi'
            have e1 := hu'.ex rfl
            have e2 := hu2.ex (by rw [show u'' = HO.tup vs' from hi2]; rfl)
            rw [e1] at e2
            have e3 : HO.tup vs = HO.tup vs' := (Option.some.inj e2).trans hi2
            cases e3
            obtain rfl : y = .int j := rp.1
            exact .inl (.inr (.inl ⟨a, vs, j, x, rfl, rfl, .inl hu'.rd, by rw [hlen rl.len]; show (ixN xs.length j).bind (fun n => vs[n]?) = some x; have h3' : ixN xs.length j = some n := h3; rw [h3']; exact hx, fin⟩))
          | _ => cases h3
        | lst =>
          cases kd with
          | int j =>
            have hi' : u = .lst vs := hi
            subst hi'
            have e1 := hu'.ex rfl
            have e2 := hu2.ex (by rw [show u'' = HO.lst vs' from hi2]; rfl)
            rw [e1] at e2
            have e3 : HO.lst vs = HO.lst vs' := (Option.some.inj e2).trans hi2
            cases e3
            obtain rfl : y = .int j := rp.1
            exact .inl (.inl ⟨a, vs, j, x, rfl, rfl, .inl hu'.rd, by rw [hlen rl.len]; show (ixN xs.length j).bind (fun n => vs[n]?) = some x; have h3' : ixN xs.length j = some n := h3; rw [h3']; exact hx, fin⟩)
          | _ => cases h3
        | dic kk =>
          obtain ⟨hl, rfl⟩ := hi
          rw [Option.bind_eq_some_iff] at h3
          obtain ⟨ky, h7, h8⟩ := h3
          exact .inr ⟨a, x, rfl, .inl ⟨_, ky, hu'.rd, keyD_rep h7 rp, by rw [look_valV, look_pos h8]; exact hx.symm⟩, fin⟩
        | dit kk =>
          obtain ⟨hl, rfl⟩ := hi
          cases kd with
          | node ok' sk ys =>
            cases sk with
            | tup =>
              simp only [Option.bind_eq_some_iff] at h3
              obtain ⟨ky, h7, h8⟩ := h3
              obtain ⟨b, ws, fq2, rfl, hb, rb, _⟩ := rp.tup r2.sub
              exact .inr ⟨a, x, rfl, .inr ⟨_, ky, b, hu'.rd, rfl, by rw [hb, keysD_rep h7 rb], by rw [look_valV, look_pos h8]; exact hx.symm⟩, fin⟩
            | _ => cases h3
          | _ => cases h3
        | ins _ _ => cases h3
        | exd _ => cases h3
  | _ => cases h2
def tyD : D → Option String
  | .node true .lst _ => some "list"
  | .node true (.dic _) _ => some "dict"
  | .node true (.dit _) _ => some "dict"
  | _ => none
def lkD (env : Evn) (i : Nat) : Option D := match env[i]? with
  | some (.bor (some m) d) => if m = i then some d else none
  | _ => none
theorem lkD_get {env : Evn} {i : Nat} {d : D} (h : lkD env i = some d) : env[i]? = some (.bor (some i) d) := by
  unfold lkD at h
  split at h
  · rename_i q
    split at h
    · rename_i z
      subst z
      cases h
      exact q
    · cases h
  · cases h
def endMut (i : Nat) (sub : D) (g : D → D) (op : D → List D → Option (D × D)) : Rs (List D) → Rs D
  | .ok ds e1 => (match lkD e1 i, op sub ds with
    | some _, some (r, sub') => .ok r (putE i (.own (g sub')) e1)
    | _, _ => .stuck)
  | .exc c x e1 => (match lkD e1 i with
    | some d => .exc c x (e1.set i (.own d))
    | none => .stuck)
  | .stuck => .stuck
def fMut (i : Nat) (p : FP) (T : String) (fa : FA) (op : D → List D → Option (D × D)) : FE := fun env => match p env with
  | some (sub, g) => if tyD sub = some T then endMut i sub g op (fa (lockE i env)) else .stuck
  | none => .stuck
structure MOp (K : PySem.W.Frag) (r : V → List V → Hp → VK → Prop) (op : D → List D → Option (D × D)) (ks : List Kd) : Prop where
  ok : ∀ F H a fs sub ws frs ds rd sub' Q, (∀ a u, F a = some u → Has H a u) → Rep K F H sub (.ref a) fs → (∀ b ∈ fs, NF H b ∧ F b = none) → RepA K F H ds ws frs →
    (∀ (j : Nat) (f : List Addr), ks[j]? = some .own → frs[j]? = some f → ∀ b ∈ f, b ∉ fs) → (∀ (j : Nat) (f : List Addr), ks[j]? = some .frz → frs[j]? = some f → f = []) → ks.length = ds.length → op sub ds = some (rd, sub') →
    (∀ u' vr fr fs', notFz u' = true → Rep K F (upd H a u') sub' (.ref a) fs' → Rep K F (upd H a u') rd vr fr → (∀ b ∈ fr, b ∉ fs') → (∀ b, b ∈ fs' ∨ b ∈ fr → b ∈ fs ∨ ∃ (j : Nat) (f : List Addr), ks[j]? = some .own ∧ frs[j]? = some f ∧ b ∈ f) → a ∈ fs → sub'.frz = false → Q vr (upd H a u')) →
    r (.ref a) ws H Q
end
section
variable {K : PySem.W.Frag} {W : WX} {ε ε1 ε2 : Bool} {F H F1 H1 F2 H2 F' H' F0 H0 : Hp} {env env1 env2 env' env0 : Evn} {fp fp1 fp2 fp' fp0 : Fp} {Z : Zst} {σ : L2.St} {k k1 k2 : Kd} {ks : List Kd}
theorem lockE_own {i : Nat} {d : D} (h : env[i]? = some (.own d)) : lockE i env = env.set i (.bor (some i) d) := by unfold lockE; rw [h]
theorem KOks.len : ∀ {ks : List Kd} {frs : List (List Addr)}, KOks H env fp F' env' fp' ks frs → ks.length = frs.length
  | [], [], _ => rfl
  | [], _ :: _, h => h.elim
  | _ :: _, [], h => h.elim
  | k :: ks, f :: fs, h => by rw [List.length_cons, List.length_cons, KOks.len h.2.2]
theorem putE_set {i : Nat} {s t : Sl} : putE i s (env.set i t) = putE i s env := by
  apply List.ext_getElem?
  intro j
  by_cases e : j = i
  · subst e
    by_cases h : j < env.length
    · rw [putE_same h, putE_same (by rw [List.length_set]; exact h)]
    · rw [List.getElem?_eq_none (by rw [putE_length, List.length_set]; omega), List.getElem?_eq_none (by rw [putE_length]; omega)]
  · rw [putE_ne e, putE_ne e, List.getElem?_set_ne (Ne.symm e)]
theorem R.change {i : Nat} {d' : D} {v : V} {a : Addr} {u' : HO} {fn : List Addr} (r : R K Z F H env σ fp) (hi : i < env.length) (hh : hold env i) (ha : a ∈ fp i) (hv : σ[i]? = some (some v)) (hz : notFz u' = true)
    (rp : Rep K F (upd H a u') d' v fn) (hn : ∀ b ∈ fn, (∀ j, j ≠ i → hold env j → b ∉ fp j) ∧ (¬ Z.B b ∧ F b = none) ∧ NF H b) : R K Z F (upd H a u') (putE i (.own d') env) σ (fset fp i fn) := by
  have rd := r.put (s' := .dead) (f' := []) hi (fun _ _ => rfl) rfl r.pin trivial
  have fe : FEv F H (fun b => b = a) F (upd H a u') := by
    refine ⟨fun b o ho n => by rw [upd_ne n]; exact ho, fun _ _ h => h, fun b h n => absurd h n, fun b hb => ?_, fun b u hb => ?_, nofz_upd hz⟩
    · by_cases e : b = a
      · rw [e, upd_same]; exact fun z => by cases z
      · rw [upd_ne e]; exact hb
    · have ne : b ≠ a := fun z => by
        rw [z, r.hF i hh a ha] at hb
        cases hb
      exact (r.sub b u hb).same fun o ho => by rw [upd_ne ne]; exact ho
  have ro := rd.out fe (fun b hb ⟨j, hj, hm⟩ => ?_) fun b hb hB => r.sepB i hh b (by rw [hb]; exact ha) hB
  · have hi2 : i < (putE i .dead env).length := by rw [putE_length]; exact hi
    have rf := ro.put (s' := .own d') (f' := fn) hi2 (fun _ _ => rfl) rfl r.pin ⟨⟨v, hv, rp⟩, fun j hj hjh b hb => ?_, fun b hb => ⟨(hn b hb).2.1, fun o u ho => (hn b hb).2.2 o u (nofz_upd hz b o u ho)⟩⟩
    · have e1 : putE i (.own d') (putE i .dead env) = putE i (.own d') env := by
        apply List.ext_getElem?
        intro j
        by_cases e : j = i
        · rw [e, putE_same hi2, putE_same hi]
        · rw [putE_ne e, putE_ne e, putE_ne e, Option.map_map]
          congr 1
          funext s
          cases s with
          | dead => rfl
          | own _ => rfl
          | bor m d =>
            cases m with
            | none => rfl
            | some m =>
              show killS i (killS i (.bor (some m) d)) = killS i (.bor (some m) d)
              by_cases q : m = i
              · simp [killS, q]
              · simp [killS, q]
      have e2 : fset (fset fp i []) i fn = fset fp i fn := by
        funext j
        unfold fset
        by_cases e : j = i
        · rw [if_pos e, if_pos e]
        · rw [if_neg e, if_neg e, if_neg e]
      rw [e1, e2] at rf
      exact rf
    · rw [fset_ne hj]
      exact (hn b hb).1 j hj ((hold_put hj).mp hjh)
  · subst hb
    by_cases e : j = i
    · subst e
      rw [fset_same] at hm
      cases hm
    · rw [fset_ne e] at hm
      exact r.sep j i e ((hold_put e).mp hj) hh b hm ha
end
end DL
namespace DL
open PySem PySem.Spec L2
section
variable {K : PySem.W.Frag} {W : WX} {ε ε1 ε2 : Bool} {F H F1 H1 F2 H2 F' H' F0 H0 : Hp} {env env1 env2 env' env0 : Evn} {fp fp1 fp2 fp' fp0 : Fp} {Z : Zst} {σ : L2.St} {k k1 k2 : Kd} {ks : List Kd}
theorem Has.nf {H : Hp} {a : Addr} {u : HO} (h : Has H a u) (n : NF H a) : H a = some u := by
  rcases h with h | ⟨⟨o, h⟩, _⟩
  · exact h
  · exact absurd h fun z => n o u z
theorem tyV_of {T : String} {sub : D} {a : Addr} {fs : List Addr} (ht : tyD sub = some T) (rp : Rep K F H sub (.ref a) fs) (nf : ∀ b ∈ fs, NF H b) : tyV K T (.ref a) H := by
  cases sub with
  | node o s xs =>
    cases o with
    | true =>
      simp only [Rep] at rp
      obtain ⟨a', u, vs, fq, ea, rfl, h1, h2, h3, h4, h5⟩ := rp
      cases ea
      have ex := h1.nf (nf a (List.mem_cons_self ..))
      cases s with
      | lst =>
        cases ht
        have h2' : u = .lst vs := h2
        exact .inl ⟨rfl, vs, .inl (.inl (by rw [ex, h2']))⟩
      | dic kk =>
        cases ht
        obtain ⟨_, rfl⟩ := h2
        exact .inr (.inr (.inl ⟨rfl, .inl ⟨_, ex⟩⟩))
      | dit kk =>
        cases ht
        obtain ⟨_, rfl⟩ := h2
        exact .inr (.inr (.inl ⟨rfl, .inr ⟨_, ex⟩⟩))
      | tup => cases ht
      | ins _ _ => cases ht
      | exd _ => cases ht
    | false => cases s <;> cases ht
  | _ => cases ht
theorem mut_core {i : Nat} {d1 sub sub' rd : D} {g : D → D} {v : V} {a : Addr} {fs : List Addr} {ds : List D} {ws : List V} {frs : List (List Addr)} {op : D → List D → Option (D × D)} {r : V → List V → Hp → VK → Prop} {Q : VK}
    (ev : Ev ε F0 H0 env0 fp0 F1 H1 env1 fp1) (r1 : R K Z F1 H1 env1 σ fp1) (h1 : env1[i]? = some (.own d1)) (hv : σ[i]? = some (some v)) (foc1 : Foc K F1 H1 v (fp1 i) (.ref a) fs sub g)
    (rep : RepA K F1 H1 ds ws frs) (hA : ∀ (j : Nat) (f : List Addr), ks[j]? = some .own → frs[j]? = some f → ∀ b ∈ f, (H0 b = none ∨ OwnA env0 fp0 b) ∧ (∀ j, hold env1 j → b ∉ fp1 j) ∧ (¬ Z.B b ∧ F1 b = none) ∧ NF H1 b)
    (hZ : ∀ (j : Nat) (f : List Addr), ks[j]? = some .frz → frs[j]? = some f → f = []) (hl : ks.length = ds.length) (mo : MOp K r op ks) (hop : op sub ds = some (rd, sub'))
    (hq : ∀ u' fn u fr, notFz u' = true → a ∈ fp1 i → (∀ b ∈ fn, b ∈ fp1 i ∨ ∃ (j : Nat) (f : List Addr), ks[j]? = some .own ∧ frs[j]? = some f ∧ b ∈ f) → Ev true F0 H0 env0 fp0 F1 (upd H1 a u') (putE i (.own (g sub')) env1) (fset fp1 i fn) → R K Z F1 (upd H1 a u') (putE i (.own (g sub')) env1) σ (fset fp1 i fn) → Rep K F1 (upd H1 a u') rd u fr → KOk .own H0 env0 fp0 F1 (putE i (.own (g sub')) env1) (fset fp1 i fn) fr → Q u (upd H1 a u')) : r (.ref a) ws H1 Q := by
  have hi1 : i < env1.length := (List.getElem?_eq_some_iff.mp h1).1
  have ow1 : isOwn env1 i := ⟨d1, h1⟩
  have hh : hold env1 i := .inl ow1
  have nf1 : ∀ b ∈ fp1 i, NF H1 b := fun b hb => r1.nf i ow1 b hb
  refine mo.ok F1 H1 a fs sub ws frs ds rd sub' Q r1.sub foc1.rep (fun b hb => ⟨nf1 b (foc1.sub b hb), r1.hF i hh b (foc1.sub b hb)⟩) rep (fun j f h2 h3 b hb hm => (hA j f h2 h3 b hb).2.1 i hh (foc1.sub b hm)) hZ hl hop
    fun u' vr fr fs' hz rp' rpr hap hsub hafs hfrz => ?_
  have hup : ∀ b, b ≠ a → ∀ u, Has H1 b u → Has (upd H1 a u') b u := fun b ne u hu => hu.same fun o ho => by rw [upd_ne ne]; exact ho
  obtain ⟨pz, fn, p2, p3⟩ := foc1.put F1 (upd H1 a u') sub' fs' (fun _ _ h => h) (fun b hb hn u hu => hup b (fun z => hn (by rw [z]; exact hafs)) u hu) rp' (fun b hb hm => by
    rcases hsub b (.inl hb) with z | ⟨j, f, h2, h3, h4⟩
    · exact z
    · exact absurd hm ((hA j f h2 h3 b h4).2.1 i hh)) hfrz
  have hin : a ∈ fp1 i := foc1.sub a hafs
  have hfn : ∀ b ∈ fn, b ∈ fp1 i ∨ ∃ (j : Nat) (f : List Addr), ks[j]? = some .own ∧ frs[j]? = some f ∧ b ∈ f := fun b hb => by
    rcases p3 b hb with z | z
    · exact .inl z.1
    · rcases hsub b (.inl z) with y | y
      · exact .inl (foc1.sub b y)
      · exact .inr y
  have rF := r1.change (d' := g sub') (fn := fn) hi1 hh hin hv hz p2 fun b hb => by
    rcases hfn b hb with z | ⟨j, f, h2, h3, h4⟩
    · exact ⟨fun j hj hjh hm => r1.sep j i hj hjh hh b hm z, ⟨r1.sepB i hh b z, r1.hF i hh b z⟩, nf1 b z⟩
    · have y := (hA j f h2 h3 b h4).2
      exact ⟨fun j _ hjh => y.1 j hjh, y.2.1, y.2.2⟩
  have own0 : ∀ b ∈ fp1 i, H0 b = none ∨ OwnA env0 fp0 b := fun b hb => ev.own b ⟨i, ow1, hb⟩
  refine hq u' fn vr fr hz hin hfn ⟨fun b o ho hn => ?_, ev.sub, fun b x y => (ev.new b x y).imp id fun z => ⟨rfl, z.2⟩, fun b ⟨j, hj, hb⟩ => ?_, fun j hj => ?_, fun b o u ho => ev.nofz b o u (nofz_upd hz b o u ho), fun b hb => ?_, fun z => by cases z⟩ rF rpr fun b hb => ⟨?_, fun ⟨j, hj, hm⟩ => ?_, ?_⟩
  · have ne : b ≠ a := fun z => by
      rcases own0 a hin with w | w
      · rw [z, w] at ho; cases ho
      · exact hn rfl (by rw [z]; exact w)
    rw [upd_ne ne]
    exact ev.keep b o ho fun _ z => hn rfl z
  · by_cases e : j = i
    · subst e
      rw [fset_same] at hb
      rcases hfn b hb with z | ⟨m, f, h2, h3, h4⟩
      · exact own0 b z
      · exact (hA m f h2 h3 b h4).1
    · rw [fset_ne e] at hb
      exact ev.own b ⟨j, (isOwn_put e).mp hj, hb⟩
  · have e : j ≠ i := fun z => by
      subst z
      obtain ⟨d, q⟩ := hj
      rw [putE_same hi1] at q
      cases q
    obtain ⟨b1, b2⟩ := ev.lks j ((isLk_put e).mp hj)
    rw [killS_lk e hj, fset_ne e]
    exact ⟨b1, b2⟩
  · by_cases e : b = a
    · rw [e, upd_same]; exact fun z => by cases z
    · rw [upd_ne e]; exact ev.dom b hb
  · rcases hsub b (.inr hb) with z | ⟨m, f, h2, h3, h4⟩
    · exact own0 b (foc1.sub b z)
    · exact (hA m f h2 h3 b h4).1
  · rcases hsub b (.inr hb) with z | ⟨m, f, h2, h3, h4⟩
    · have zi : b ∈ fp1 i := foc1.sub b z
      by_cases e : j = i
      · subst e
        rw [fset_same] at hm
        rcases p3 b hm with y | y
        · exact y.2 z
        · exact hap b hb y
      · rw [fset_ne e] at hm
        exact r1.sep j i e (.inl ((isOwn_put e).mp hj)) hh b hm zi
    · have y := (hA m f h2 h3 b h4).2
      by_cases e : j = i
      · subst e
        rw [fset_same] at hm
        rcases p3 b hm with w | w
        · exact y.1 j hh w.1
        · exact hap b hb w
      · rw [fset_ne e] at hm
        exact y.1 j (.inl ((isOwn_put e).mp hj)) hm
  · rcases hsub b (.inr hb) with z | ⟨m, f, h2, h3, h4⟩
    · exact r1.hF i hh b (foc1.sub b z)
    · exact (hA m f h2 h3 b h4).2.2.1.2
theorem esim_mut {i : Nat} {p : FP} {T : String} {fa : FA} {op : D → List D → Option (D × D)} {r : V → List V → Hp → VK → Prop} {to : TE} {ta : TA} {t' : TE} (sp : PlSim K i to p) (po : ∀ env x, p env = some x → ∃ d, env[i]? = some (.own d)) (sa : ASim K W ε ks ta fa) (mo : MOp K r op ks)
    (ht : ∀ σ H Q, to σ H (fun x H1 => tyV K T x H1 ∧ ta σ H1 fun xs H2 => r x xs H2 Q) → t' σ H Q) : ESim K W true .own t' (fMut i p T fa op) := by
  intro Z F H env σ fp Q r0 hq
  unfold fMut at hq
  cases qp : p env with
  | none => rw [qp] at hq; exact hq.elim
  | some x =>
    obtain ⟨sub, g⟩ := x
    simp only [qp] at hq
    split at hq
    case isFalse => exact hq.elim
    rename_i hty
    -- the name is one's own
    have ho := po env _ qp
    obtain ⟨d0, h0⟩ := ho
    have s := r0.slot i
    unfold SlotR at s
    rw [h0] at s
    obtain ⟨v, hv, _⟩ := s
    refine ht σ H Q (sp Z F H env σ fp v sub g _ r0 ⟨d0, h0⟩ hv qp fun F1 H1 w fs gr foc => ?_)
    have r1 := r0.grow gr
    have ev0 : Ev ε F H env fp F1 H1 env fp := gr.ev
    -- it is no plain value
    have hw : ∃ a, w = .ref a := by
      cases sub with
      | node o s xs =>
        cases o with
        | true =>
          have z := foc.rep
          simp only [Rep] at z
          obtain ⟨a, _, _, _, e, _⟩ := z
          exact ⟨a, e⟩
        | false => cases s <;> cases hty
      | _ => cases hty
    obtain ⟨a, rfl⟩ := hw
    refine ⟨tyV_of hty foc.rep fun b hb => r1.nf i ⟨d0, h0⟩ b (foc.sub b hb), ?_⟩
    rw [lockE_own h0] at hq
    have gL : ∀ {e : Evn} {f : Fp} {F' H'}, Ev ε F1 H1 (env.set i (.bor (some i) d0)) fp F' H' e f → Ev ε F H (env.set i (.bor (some i) d0)) fp F' H' e f := fun e => (gr.ev.trans (ε1 := ε) e).mono (by cases ε <;> simp) (by cases ε <;> simp)
    refine sa Z F1 H1 _ σ fp _ (r1.lock h0) ?_
    cases qa : fa (env.set i (.bor (some i) d0)) with
    | stuck => rw [qa] at hq; exact hq.elim
    | exc c x e1 =>
      rw [qa] at hq
      simp only [endMut] at hq
      cases ql : lkD e1 i with
      | none => rw [ql] at hq; exact hq.elim
      | some d1 =>
        rw [ql] at hq
        have hl := lkD_get ql
        intro F2 H2 fp2 dx e2 r2 rx
        have d10 : d1 = d0 := by
          obtain ⟨z, _⟩ := e2.lks i ⟨d1, hl⟩
          rw [set_get h0, if_pos rfl, hl] at z
          cases z
          rfl
        subst d10
        have eu := (gL e2).unlk h0 hl
        refine hq F2 H2 fp2 dx (eu.mono (fun _ => rfl) fun z => by cases z) (r2.unlk hl fun b hb o u hz => ?_) rx
        obtain ⟨_, z⟩ := e2.lks i ⟨_, hl⟩
        rw [z] at hb
        exact r1.nf i ⟨_, h0⟩ b hb o u (e2.nofz b o u hz)
    | ok ds e1 =>
      rw [qa] at hq
      simp only [endMut] at hq
      cases ql : lkD e1 i with
      | none => rw [ql] at hq; exact hq.elim
      | some d1 =>
        rw [ql] at hq
        have hl := lkD_get ql
        cases qo : op sub ds with
        | none => rw [qo] at hq; exact hq.elim
        | some y =>
          obtain ⟨rd, sub'⟩ := y
          rw [qo] at hq
          intro F2 H2 fp2 vs frs e2 r2 rep ko
          have d10 : d1 = d0 := by
            obtain ⟨z, _⟩ := e2.lks i ⟨d1, hl⟩
            rw [set_get h0, if_pos rfl, hl] at z
            cases z
            rfl
          subst d10
          obtain ⟨_, fpe⟩ := e2.lks i ⟨_, hl⟩
          have eu := (gL e2).unlk h0 hl
          have hl2 : (e1.set i (.own d1))[i]? = some (.own d1) := by rw [set_get hl, if_pos rfl]
          have ru := r2.unlk hl fun b hb o u hz => by
            rw [fpe] at hb
            exact r1.nf i ⟨_, h0⟩ b hb o u (e2.nofz b o u hz)
          have oL : ∀ b, OwnA (env.set i (.bor (some i) d1)) fp b → OwnA env fp b := fun b ⟨j, hj, hb⟩ => ⟨j, ((lock_own h0).mp hj).1, hb⟩
          have nL : ∀ b ∈ fp i, ¬ OwnA (env.set i (.bor (some i) d1)) fp b := fun b hb ⟨j, hj, hm⟩ => by
            obtain ⟨h2, h3⟩ := (lock_own h0).mp hj
            exact r1.sep j i h3 (.inl h2) (.inl ⟨_, h0⟩) b hm hb
          have foc2 : Foc K F2 H2 v (fp2 i) (.ref a) fs sub g := by
            rw [fpe]
            exact foc.mono e2.sub fun b hb u hu => hu.same fun o ho => e2.keep b o ho fun _ => nL b hb
          refine mut_core (ks := ks) eu ru hl2 hv foc2 rep (fun j f h2 h3 b hb => ?_) (fun j f h2 h3 => KOks.get ko h2 h3) (by rw [ko.len]; exact rep.lens.2) mo qo fun u' fn u fr _ _ _ e3 r3 rp ko3 => ?_
          · have x : KOk .own H1 (env.set i (.bor (some i) d1)) fp F2 e1 fp2 f := KOks.get ko h2 h3
            have z := (r1.lock h0).apart e2 x
            refine ⟨?_, fun m hm => z.1 m ((unlk_hold hl).mp hm) b hb, z.2 b hb⟩
            rcases (x b hb).1 with y | y
            · exact .inl ((gr.ev (ε := true) (env := env) (fp := fp)).nd y)
            · exact .inr (oL b y)
          · rw [putE_set] at e3 r3 ko3
            exact hq F2 _ _ u fr e3 r3 rp ko3
end
end DL
namespace DL
open PySem PySem.Spec L2
section
variable {K : PySem.W.Frag} {F H : Hp}
theorem RepL.nil_inv {vs : List V} {fp : List Addr} (h : RepL K F H [] vs fp) : vs = [] ∧ fp = [] := h
theorem RepL.cons_inv {d : D} {ds : List D} {vs : List V} {fp : List Addr} (h : RepL K F H (d :: ds) vs fp) : ∃ (v : V) (ws : List V) (f1 f2 : List Addr), vs = v :: ws ∧ fp = f1 ++ f2 ∧ (∀ a ∈ f1, a ∉ f2) ∧ Rep K F H d v f1 ∧ RepL K F H ds ws f2 := by
  simp only [RepL] at h
  exact h
theorem RepL.app : ∀ {xs ys : List D} {vs ws : List V} {f1 f2 : List Addr}, RepL K F H xs vs f1 → RepL K F H ys ws f2 → (∀ a ∈ f1, a ∉ f2) → RepL K F H (xs ++ ys) (vs ++ ws) (f1 ++ f2)
  | [], ys, vs, ws, f1, f2, h1, h2, ap => by
    obtain ⟨rfl, rfl⟩ := h1.nil_inv
    exact h2
  | x :: xs, ys, vs, ws, f1, f2, h1, h2, ap => by
    obtain ⟨v, us, g1, g2, rfl, rfl, a1, a2, a3⟩ := h1.cons_inv
    have ih := RepL.app a3 h2 fun a ha => ap a (List.mem_append_right _ ha)
    rw [List.cons_append, List.cons_append, List.append_assoc]
    refine RepL.mk (fun a ha hm => ?_) a2 ih
    rcases List.mem_append.mp hm with hm | hm
    · exact a1 a ha hm
    · exact ap a (List.mem_append_left _ ha) hm
theorem RepL.one {d : D} {v : V} {f : List Addr} (h : Rep K F H d v f) : RepL K F H [d] [v] f := by
  have := RepL.mk (ds := []) (ws := []) (f2 := []) (fun a _ z => by cases z) h ⟨rfl, rfl⟩
  rwa [List.append_nil] at this
theorem RepL.erase : ∀ {xs : List D} {vs : List V} {fp : List Addr} {n : Nat} {d : D}, RepL K F H xs vs fp → xs[n]? = some d → ∃ (v : V) (f1 f2 : List Addr), vs[n]? = some v ∧ Rep K F H d v f1 ∧ RepL K F H (xs.eraseIdx n) (vs.eraseIdx n) f2 ∧ (∀ a ∈ f1, a ∉ f2) ∧ (∀ a, a ∈ f1 ∨ a ∈ f2 → a ∈ fp)
  | [], vs, fp, n, d, h, e => by simp at e
  | x :: xs, vs, fp, 0, d, h, e => by
    simp at e
    subst e
    obtain ⟨v, us, g1, g2, rfl, rfl, a1, a2, a3⟩ := h.cons_inv
    exact ⟨v, g1, g2, rfl, a2, a3, a1, fun a ha => List.mem_append.mpr ha⟩
  | x :: xs, vs, fp, n + 1, d, h, e => by
    obtain ⟨v, us, g1, g2, rfl, rfl, a1, a2, a3⟩ := h.cons_inv
    obtain ⟨w, f1, f2, e1, e2, e3, e4, e5⟩ := RepL.erase (n := n) a3 (by simpa using e)
    refine ⟨w, f1, g1 ++ f2, by simpa using e1, e2, RepL.mk (fun a ha hm => a1 a ha (e5 a (.inr hm))) a2 e3, fun a ha hm => ?_, fun a ha => ?_⟩
    · rcases List.mem_append.mp hm with hm | hm
      · exact a1 a hm (e5 a (.inl ha))
      · exact e4 a ha hm
    · rcases ha with ha | ha
      · exact List.mem_append_right _ (e5 a (.inl ha))
      · rcases List.mem_append.mp ha with ha | ha
        · exact List.mem_append_left _ ha
        · exact List.mem_append_right _ (e5 a (.inr ha))
theorem RepL.setAt : ∀ {xs : List D} {vs : List V} {fp : List Addr} {n : Nat} {d : D} {v : V} {f : List Addr}, RepL K F H xs vs fp → n < xs.length → Rep K F H d v f → (∀ a ∈ f, a ∉ fp) → ∃ fq, RepL K F H (xs.set n d) (vs.set n v) fq ∧ ∀ a ∈ fq, a ∈ fp ∨ a ∈ f
  | [], vs, fp, n, d, v, f, h, e, hd, ap => by simp at e
  | x :: xs, vs, fp, 0, d, v, f, h, e, hd, ap => by
    obtain ⟨w, us, g1, g2, rfl, rfl, a1, a2, a3⟩ := h.cons_inv
    exact ⟨f ++ g2, RepL.mk (fun a ha hm => ap a ha (List.mem_append_right _ hm)) hd a3, fun a ha => (List.mem_append.mp ha).symm.imp (List.mem_append_right _) id⟩
  | x :: xs, vs, fp, n + 1, d, v, f, h, e, hd, ap => by
    obtain ⟨w, us, g1, g2, rfl, rfl, a1, a2, a3⟩ := h.cons_inv
    obtain ⟨fq, q1, q2⟩ := RepL.setAt (n := n) a3 (by simpa using e) hd fun a ha hm => ap a ha (List.mem_append_right _ hm)
    refine ⟨g1 ++ fq, RepL.mk (fun a ha hm => ?_) a2 q1, fun a ha => ?_⟩
    · rcases q2 a hm with z | z
      · exact a1 a ha z
      · exact ap a z (List.mem_append_left _ ha)
    · rcases List.mem_append.mp ha with ha | ha
      · exact .inl (List.mem_append_left _ ha)
      · exact (q2 a ha).imp (List.mem_append_right _) id
theorem Rep.own_node {s : Sh} {xs : List D} {a : Addr} {fs : List Addr} (h : Rep K F H (.node true s xs) (.ref a) fs) (nf : ∀ b ∈ fs, NF H b) : ∃ (u : HO) (vs : List V) (fq : List Addr), fs = a :: fq ∧ H a = some u ∧ IsN K s vs u ∧ a ∉ fq ∧ RepL K F H xs vs fq := by
  simp only [Rep] at h
  obtain ⟨a', u, vs, fq, ea, rfl, h1, h2, h3, h4, h5⟩ := h
  cases ea
  exact ⟨u, vs, fq, rfl, h1.nf (nf a (List.mem_cons_self ..)), h2, h3, h5⟩
theorem Rep.at_upd {d : D} {v : V} {f : List Addr} {a : Addr} {u : HO} (h : Rep K F H d v f) (n : a ∉ f) : Rep K F (upd H a u) d v f :=
  Rep.mono (fun _ _ h => h) d v f (fun b hb w hw => hw.same fun o ho => by rw [upd_ne (fun z => n (by rw [← z]; exact hb))]; exact ho) h
theorem RepL.at_upd {ds : List D} {vs : List V} {f : List Addr} {a : Addr} {u : HO} (h : RepL K F H ds vs f) (n : a ∉ f) : RepL K F (upd H a u) ds vs f :=
  RepL.mono (fun _ _ h => h) ds vs f (fun b hb w hw => hw.same fun o ho => by rw [upd_ne (fun z => n (by rw [← z]; exact hb))]; exact ho) h
theorem Rep.mk_own {s : Sh} {xs : List D} {a : Addr} {u : HO} {vs : List V} {fq : List Addr} (h : RepL K F H xs vs fq) (n : a ∉ fq) (i : IsN K s vs u) (ht : s ≠ .tup) : Rep K F (upd H a u) (.node true s xs) (.ref a) (a :: fq) := by
  rw [Rep]
  exact ⟨a, u, vs, fq, rfl, rfl, .inl upd_same, i, n, fun z => absurd z ht, h.at_upd n⟩
def opAppend : D → List D → Option (D × D)
  | .node true .lst xs, [d] => if xs.length < sizeLine then some (.non, .node true .lst (xs ++ [d])) else none
  | _, _ => none
theorem prot_f {k : Kd} {ks : List Kd} {j : Nat} {frs : List (List Addr)} {f : List Addr} {P : Addr → Prop} (hk : k.prot = true) (e : ks[j]? = some k) (ef : frs[j]? = some f) (h1 : ∀ (j : Nat) (f : List Addr), ks[j]? = some .own → frs[j]? = some f → ∀ b ∈ f, P b) (h2 : ∀ (j : Nat) (f : List Addr), ks[j]? = some .frz → frs[j]? = some f → f = []) : ∀ b ∈ f, P b ∧ ks[j]? = some .own := by
  cases k with
  | own => exact fun b hb => ⟨h1 j f e ef b hb, e⟩
  | frz => rw [h2 j f e ef]; exact fun b hb => by cases hb
  | bor _ => cases hk
theorem mop_append {k : Kd} (hk : k.prot = true) : MOp K rAppend opAppend [k] := by
  refine ⟨fun F H a fs sub ws frs ds rd sub' Q hs rp nf rep ap fz hl e q => ?_⟩
  unfold opAppend at e
  split at e
  · split at e
    · cases e
      rename_i xs d hlen
      obtain ⟨v, vs0, f, fs0, rfl, rfl, r1, r2⟩ := rep.inv
      obtain ⟨rfl, rfl⟩ := r2.inv0
      obtain ⟨u, vs, fq, rfl, hu, hn, ha, rl⟩ := rp.own_node fun b hb => (nf b hb).1
      have hn' : u = .lst vs := hn
      subst hn'
      have hf := prot_f (P := fun b => b ∉ a :: fq) (j := 0) (f := f) hk rfl rfl ap fz
      have hd : ∀ b ∈ fq, b ∉ f := fun b hb hm => (hf b hm).1 (List.mem_cons_of_mem _ hb)
      have haf : a ∉ fq ++ f := fun z => by
        rcases List.mem_append.mp z with z | z
        · exact ha z
        · exact (hf a z).1 (List.mem_cons_self ..)
      refine ⟨a, vs, v, rfl, rfl, hu, by rw [rl.len]; exact hlen, q (.lst (vs ++ [v])) .non [] (a :: (fq ++ f)) rfl (Rep.mk_own (rl.app (.one r1) hd) haf rfl (by simp)) (.plain rfl) (fun b hb => by cases hb) (fun b hb => ?_) (List.mem_cons_self ..) rfl⟩
      rcases hb with hb | hb
      · rcases List.mem_cons.mp hb with rfl | hb
        · exact .inl (List.mem_cons_self ..)
        · rcases List.mem_append.mp hb with hb | hb
          · exact .inl (List.mem_cons_of_mem _ hb)
          · exact .inr ⟨0, f, (hf b hb).2, rfl, hb⟩
      · cases hb
    · cases e
  · cases e
end
end DL
namespace DL
open PySem PySem.Spec L2
section
variable {K : PySem.W.Frag} {F H : Hp}
def opPopAt : D → List D → Option (D × D)
  | .node true .lst xs, [.int i] => if -(2 ^ 63) ≤ i ∧ i < 2 ^ 63 then (ixN xs.length i).bind fun n => (xs[n]?).map fun d => (d, .node true .lst (xs.eraseIdx n)) else none
  | _, _ => none
theorem mop_popAt {k : Kd} : MOp K rPopAt opPopAt [k] := by
  refine ⟨fun F H a fs sub ws frs ds rd sub' Q hs rp nf rep ap fz hl e q => ?_⟩
  unfold opPopAt at e
  split at e
  · split at e
    · rename_i xs i hb
      rw [Option.bind_eq_some_iff] at e
      obtain ⟨n, e0, e⟩ := e
      rw [Option.map_eq_some_iff] at e
      obtain ⟨d, e1, e2⟩ := e
      cases e2
      obtain ⟨v, vs0, f, fs0, rfl, rfl, r1, r2⟩ := rep.inv
      obtain ⟨rfl, rfl⟩ := r2.inv0
      obtain rfl : v = .int i := r1.1
      obtain ⟨u, vs, fq, rfl, hu, hn, ha, rl⟩ := rp.own_node fun b hb => (nf b hb).1
      have hn' : u = .lst vs := hn
      subst hn'
      obtain ⟨w, f1, f2, g1, g2, g3, g4, g5⟩ := rl.erase e1
      have hk : seqIndex? i vs.length = some n := by rw [rl.len]; exact (ixN_seq e0).1
      refine ⟨a, vs, i, n, w, rfl, rfl, hu, hb.1, hb.2, hk, g1, q (.lst (vs.eraseIdx n)) w f1 (a :: f2) rfl (Rep.mk_own g3 (fun z => ha (g5 a (.inr z))) rfl (by simp)) (g2.at_upd fun z => ha (g5 a (.inl z))) (fun b hb hm => ?_) (fun b hb => .inl ?_) (List.mem_cons_self ..) rfl⟩
      · rcases List.mem_cons.mp hm with rfl | hm
        · exact ha (g5 _ (.inl hb))
        · exact g4 b hb hm
      · rcases hb with hb | hb
        · rcases List.mem_cons.mp hb with rfl | hb
          · exact List.mem_cons_self ..
          · exact List.mem_cons_of_mem _ (g5 b (.inr hb))
        · exact List.mem_cons_of_mem _ (g5 b (.inl hb))
    · cases e
  · cases e
def opRev : D → List D → Option (D × D)
  | .node true .lst xs, [] => some (.non, .node true .lst xs.reverse)
  | _, _ => none
def putFD : List Str → List D → Str → D → List Str × List D
  | [], _, f, d => ([f], [d])
  | g :: fs, [], f, d => (g :: fs, [])
  | g :: fs, x :: xs, f, d => if g = f then (g :: fs, d :: xs) else ((g :: (putFD fs xs f d).1), x :: (putFD fs xs f d).2)
theorem putFD_rep {d : D} {v : V} {f' : List Addr} (hd : Rep K F H d v f') : ∀ {fs : List Str} {xs : List D} {vs : List V} {fq : List Addr} {f : Str}, RepL K F H xs vs fq → fs.length = vs.length → (∀ a ∈ f', a ∉ fq) →
    ∃ ws fr, putF f v (fs.zip vs) = (putFD fs xs f d).1.zip ws ∧ RepL K F H (putFD fs xs f d).2 ws fr ∧ (putFD fs xs f d).1.length = ws.length ∧ ∀ a ∈ fr, a ∈ fq ∨ a ∈ f'
  | [], xs, vs, fq, f, h, hl, ap => by
    cases vs with
    | cons _ _ => simp at hl
    | nil =>
      exact ⟨[v], f', rfl, .one hd, rfl, fun a ha => .inr ha⟩
  | g :: fs, xs, vs, fq, f, h, hl, ap => by
    cases vs with
    | nil => simp at hl
    | cons w ws =>
      cases xs with
      | nil => cases h.nil_inv.1
      | cons x xs =>
        obtain ⟨v', us, f1, f2, e1, rfl, a1, a2, a3⟩ := h.cons_inv
        cases e1
        unfold putFD
        rw [List.zip_cons_cons]
        unfold putF
        by_cases z : g = f
        · rw [if_pos z, if_pos z]
          exact ⟨v :: ws, f' ++ f2, rfl, RepL.mk (fun a ha hm => ap a ha (List.mem_append_right _ hm)) hd a3, hl, fun a ha => (List.mem_append.mp ha).symm.imp (List.mem_append_right _) id⟩
        · rw [if_neg z, if_neg z]
          obtain ⟨us, fr, e1, e2, e3, e4⟩ := putFD_rep hd (fs := fs) (f := f) a3 (by simpa using hl) fun a ha hm => ap a ha (List.mem_append_right _ hm)
          refine ⟨w :: us, f1 ++ fr, by rw [e1]; rfl, RepL.mk (fun a ha hm => ?_) a2 e2, by rw [List.length_cons, List.length_cons, e3], fun a ha => ?_⟩
          · rcases e4 a hm with y | y
            · exact a1 a ha y
            · exact ap a y (List.mem_append_left _ ha)
          · rcases List.mem_append.mp ha with ha | ha
            · exact .inl (List.mem_append_left _ ha)
            · exact (e4 a ha).imp (List.mem_append_right _) id
def rSetF (K : PySem.W.Frag) (f : Str) : V → List V → Hp → VK → Prop := fun x vs H Q => ∃ a C dx fs y, x = .ref a ∧ vs = [y] ∧ H a = some (.ins C dx fs) ∧ Cls K C ∧ NoAttr K C f ∧ fs.length < 1000 ∧ Q .non (upd H a (.ins C dx (putF f y fs)))
def opSetF (cl f : Str) : D → List D → Option (D × D)
  | .node true (.ins c fs) xs, [d] => if c = cl ∧ fs.length < 1000 then some (.non, .node true (.ins c (putFD fs xs f d).1) (putFD fs xs f d).2) else none
  | _, _ => none
theorem mop_setF {k : Kd} {cl f : Str} (hk : k.prot = true) (hc : (He.Fa.cls cl).ok K = true) (hn : (He.Fa.noat cl f).ok K = true) : MOp K (rSetF K f) (opSetF cl f) [k] := by
  refine ⟨fun F H a fs sub ws frs ds rd sub' Q hs rp nf rep ap fz hl e q => ?_⟩
  unfold opSetF at e
  split at e
  · split at e
    · rename_i c fs0 xs d hlen
      obtain ⟨rfl, hlt⟩ := hlen
      cases e
      obtain ⟨v, vs0, f0, fs1, rfl, rfl, r1, r2⟩ := rep.inv
      obtain ⟨rfl, rfl⟩ := r2.inv0
      obtain ⟨u, vs, fq, rfl, hu, hn', ha, rl⟩ := rp.own_node fun b hb => (nf b hb).1
      obtain ⟨hl', dx, rfl⟩ := hn'
      have hf := prot_f (P := fun b => b ∉ a :: fq) (j := 0) (f := f0) hk rfl rfl ap fz
      obtain ⟨us, fr, e1, e2, e3, e4⟩ := putFD_rep r1 (f := f) rl hl' fun b hb hm => (hf b hb).1 (List.mem_cons_of_mem _ hm)
      have haf : a ∉ fr := fun z => by
        rcases e4 a z with z | z
        · exact ha z
        · exact (hf a z).1 (List.mem_cons_self ..)
      refine ⟨a, _, dx, _, v, rfl, rfl, hu, He.cls_ok hc, He.noat_ok hn, by rw [List.length_zip, hl', Nat.min_self, ← hl']; exact hlt, ?_⟩
      rw [e1]
      refine q _ .non [] (a :: fr) rfl (Rep.mk_own e2 haf ⟨e3, dx, rfl⟩ (by simp)) (.plain rfl) (fun b hb => by cases hb) (fun b hb => ?_) (List.mem_cons_self ..) rfl
      rcases hb with hb | hb
      · rcases List.mem_cons.mp hb with rfl | hb
        · exact .inl (List.mem_cons_self ..)
        · rcases e4 b hb with z | z
          · exact .inl (List.mem_cons_of_mem _ z)
          · exact .inr ⟨0, f0, (hf b z).2, rfl, z⟩
      · cases hb
    · cases e
  · cases e
end
end DL
namespace DL
open PySem PySem.Spec L2
section
variable {κ : Type} [DecidableEq κ]
def putKD (ks : List κ) (xs : List D) (k : κ) (d : D) : List κ × List D := match posK ks k with
  | some n => (ks, xs.set n d)
  | none => (ks ++ [k], xs ++ [d])
theorem posK_none {k : κ} : ∀ {ks : List κ}, posK ks k = none → k ∉ ks
  | [], _ => by simp
  | g :: ks, h => by
    unfold posK at h
    by_cases z : g = k
    · rw [if_pos z] at h; cases h
    · rw [if_neg z, Option.map_eq_none_iff] at h
      have := posK_none h
      simp [Ne.symm z, this]
theorem posK_some {k : κ} : ∀ {ks : List κ} {n : Nat}, posK ks k = some n → ks[n]? = some k
  | [], _, h => by cases h
  | g :: ks, n, h => by
    unfold posK at h
    by_cases z : g = k
    · rw [if_pos z] at h; cases h; simp [z]
    · rw [if_neg z, Option.map_eq_some_iff] at h
      obtain ⟨m, h1, rfl⟩ := h
      simpa using posK_some h1
theorem putK_none {k : κ} {ks : List κ} {vs : List V} (v : V) (h : posK ks k = none) (hl : ks.length = vs.length) : putK (ks.zip vs) k v = (ks ++ [k]).zip (vs ++ [v]) := by
  rw [putK_new v, List.zip_append hl]
  · rfl
  · rw [look_valV]
    have : ∀ {ks : List κ} {vs : List V}, k ∉ ks → look ks vs k = none := by
      intro ks
      induction ks with
      | nil => intro vs _; rfl
      | cons g ks ih =>
        intro vs hk
        cases vs with
        | nil => rfl
        | cons w vs =>
          simp only [List.mem_cons, not_or] at hk
          unfold look
          rw [if_neg (Ne.symm hk.1)]
          exact ih hk.2
    exact this (posK_none h)
theorem putK_some {k : κ} {v : V} : ∀ {ks : List κ} {vs : List V} {n : Nat}, posK ks k = some n → ks.Nodup → ks.length = vs.length → putK (ks.zip vs) k v = ks.zip (vs.set n v) := by
  intro ks vs n h nd hl
  have hany : ((ks.zip vs).any fun kv => decide (kv.1 = k)) = true := by
    have h1 := posK_some h
    have hn : n < ks.length := (List.getElem?_eq_some_iff.mp h1).1
    rw [List.any_eq_true]
    refine ⟨(k, vs[n]'(by omega)), ?_, by simp⟩
    refine List.mem_of_getElem? (i := n) ?_
    rw [List.getElem?_zip_eq_some]
    exact ⟨h1, List.getElem?_eq_getElem _⟩
  unfold putK
  rw [if_pos hany]
  clear hany
  have noK : ∀ {ks : List κ} {vs : List V}, k ∉ ks → (ks.zip vs).map (fun kv => if kv.1 = k then (kv.1, v) else kv) = ks.zip vs := by
    intro ks
    induction ks with
    | nil => intro vs _; rfl
    | cons g ks ih =>
      intro vs hk
      cases vs with
      | nil => rfl
      | cons w vs =>
        simp only [List.mem_cons, not_or] at hk
        rw [List.zip_cons_cons, List.map_cons, ih hk.2, if_neg (Ne.symm hk.1)]
  induction ks generalizing vs n with
  | nil => cases h
  | cons g ks ih =>
    cases vs with
    | nil => simp at hl
    | cons w vs =>
      rw [List.nodup_cons] at nd
      unfold posK at h
      rw [List.zip_cons_cons, List.map_cons]
      by_cases z : g = k
      · rw [if_pos z] at h
        cases h
        rw [if_pos z, noK (by rw [← z]; exact nd.1)]
        rfl
      · rw [if_neg z, Option.map_eq_some_iff] at h
        obtain ⟨m, h1, rfl⟩ := h
        rw [if_neg z, ih h1 nd.2 (by simpa using hl)]
        rfl
theorem nodup_snoc {k : κ} {ks : List κ} (nd : ks.Nodup) (h : k ∉ ks) : (ks ++ [k]).Nodup := by
  rw [List.nodup_append]
  exact ⟨nd, by simp, fun a ha b hb z => h (by rw [List.mem_singleton] at hb; rw [← hb, ← z]; exact ha)⟩
end
section
variable {K : PySem.W.Frag} {F H : Hp}
theorem putKD_rep {κ : Type} [DecidableEq κ] {d : D} {v : V} {f' : List Addr} (hd : Rep K F H d v f') {ks : List κ} {xs : List D} {vs : List V} {fq : List Addr} {k : κ} (h : RepL K F H xs vs fq) (hl : ks.length = vs.length) (nd : ks.Nodup) (ap : ∀ a ∈ f', a ∉ fq) :
    ∃ ws fr, putK (ks.zip vs) k v = (putKD ks xs k d).1.zip ws ∧ RepL K F H (putKD ks xs k d).2 ws fr ∧ ((putKD ks xs k d).1.length = ws.length ∧ (putKD ks xs k d).1.Nodup) ∧ ∀ a ∈ fr, a ∈ fq ∨ a ∈ f' := by
  unfold putKD
  cases q : posK ks k with
  | none =>
    refine ⟨vs ++ [v], fq ++ f', putK_none v q hl, h.app (.one hd) fun a ha hm => ap a hm ha, ⟨by simp [hl], nodup_snoc nd (posK_none q)⟩, fun a ha => List.mem_append.mp ha⟩
  | some n =>
    have hn : n < xs.length := by
      have := (List.getElem?_eq_some_iff.mp (posK_some q)).1
      rw [← h.len]
      omega
    obtain ⟨fr, e1, e2⟩ := h.setAt hn hd ap
    exact ⟨vs.set n v, fr, putK_some q nd hl, e1, ⟨by simpa using hl, nd⟩, e2⟩
def opSetI : D → List D → Option (D × D)
  | .node true .lst xs, [d, .int i] => (ixN xs.length i).map fun n => (.non, .node true .lst (xs.set n d))
  | .node true (.dic ks) xs, [d, k] => if ks.length < sizeLine then (keyD k).map fun k => (.non, .node true (.dic (putKD ks xs k d).1) (putKD ks xs k d).2) else none
  | .node true (.dit ks) xs, [d, .node _ .tup ys] => if ks.length < sizeLine then (keysD ys).map fun k => (.non, .node true (.dit (putKD ks xs k d).1) (putKD ks xs k d).2) else none
  | _, _ => none
def rSetI : V → List V → Hp → VK → Prop := fun x vs H Q => ∃ v y, vs = [v, y] ∧ (rSetL x y v H (fun H' => Q .non H') ∨ rSetD x y v H (fun H' => Q .non H'))
theorem mop_setI {k k2 : Kd} (hk : k.prot = true) : MOp K rSetI opSetI [k, k2] := by
  refine ⟨fun F H a fs sub ws frs ds rd sub' Q hs rp nf rep ap fz hl e q => ?_⟩
  have two : ∀ {d c : D}, ds = [d, c] → ∃ v y f0 f1, ws = [v, y] ∧ frs = [f0, f1] ∧ Rep K F H d v f0 ∧ Rep K F H c y f1 := by
    intro d c e
    subst e
    obtain ⟨v, vs0, f0, fs1, rfl, rfl, r1, r2⟩ := rep.inv
    obtain ⟨y, vs1, f1, fs2, rfl, rfl, r3, r4⟩ := r2.inv
    obtain ⟨rfl, rfl⟩ := r4.inv0
    exact ⟨v, y, f0, f1, rfl, rfl, r1, r3⟩
  unfold opSetI at e
  split at e
  · rename_i xs d i
    rw [Option.map_eq_some_iff] at e
    obtain ⟨n, e1, e2⟩ := e
    cases e2
    obtain ⟨v, y, f0, f1, rfl, rfl, r1, r2⟩ := two rfl
    obtain rfl : y = .int i := r2.1
    obtain ⟨u, vs, fq, rfl, hu, hn', ha, rl⟩ := rp.own_node fun b hb => (nf b hb).1
    have hn2 : u = .lst vs := hn'
    subst hn2
    have hf := prot_f (P := fun b => b ∉ a :: fq) (j := 0) (f := f0) hk rfl rfl ap fz
    obtain ⟨fr, e3, e4⟩ := rl.setAt (ixN_seq e1).2.1 r1 fun b hb hm => (hf b hb).1 (List.mem_cons_of_mem _ hm)
    have haf : a ∉ fr := fun z => by
      rcases e4 a z with z | z
      · exact ha z
      · exact (hf a z).1 (List.mem_cons_self ..)
    refine ⟨v, .int i, rfl, .inl ⟨a, vs, i, n, rfl, rfl, hu, by rw [rl.len]; exact e1, q _ .non [] (a :: fr) rfl (Rep.mk_own e3 haf rfl (by simp)) (.plain rfl) (fun b hb => by cases hb) (fun b hb => ?_) (List.mem_cons_self ..) rfl⟩⟩
    rcases hb with hb | hb
    · rcases List.mem_cons.mp hb with rfl | hb
      · exact .inl (List.mem_cons_self ..)
      · rcases e4 b hb with z | z
        · exact .inl (List.mem_cons_of_mem _ z)
        · exact .inr ⟨0, f0, (hf b z).2, rfl, z⟩
    · cases hb
  · split at e
    · rename_i ks xs d c hlen
      rw [Option.map_eq_some_iff] at e
      obtain ⟨ky, e1, e2⟩ := e
      cases e2
      obtain ⟨v, y, f0, f1, rfl, rfl, r1, r2⟩ := two rfl
      obtain ⟨u, vs, fq, rfl, hu, hn', ha, rl⟩ := rp.own_node fun b hb => (nf b hb).1
      obtain ⟨⟨hl', nd⟩, rfl⟩ := hn'
      have hf := prot_f (P := fun b => b ∉ a :: fq) (j := 0) (f := f0) hk rfl rfl ap fz
      obtain ⟨us, fr, g1, g2, g3, g4⟩ := putKD_rep r1 (k := ky) rl hl' nd fun b hb hm => (hf b hb).1 (List.mem_cons_of_mem _ hm)
      have haf : a ∉ fr := fun z => by
        rcases g4 a z with z | z
        · exact ha z
        · exact (hf a z).1 (List.mem_cons_self ..)
      refine ⟨v, y, rfl, .inr ⟨a, _, rfl, .inl ⟨_, ky, hu, keyD_rep e1 r2, by rw [List.length_zip, hl', Nat.min_self, ← hl']; exact hlen, rfl⟩, ?_⟩⟩
      rw [g1]
      refine q _ .non [] (a :: fr) rfl (Rep.mk_own g2 haf ⟨g3, rfl⟩ (by simp)) (.plain rfl) (fun b hb => by cases hb) (fun b hb => ?_) (List.mem_cons_self ..) rfl
      rcases hb with hb | hb
      · rcases List.mem_cons.mp hb with rfl | hb
        · exact .inl (List.mem_cons_self ..)
        · rcases g4 b hb with z | z
          · exact .inl (List.mem_cons_of_mem _ z)
          · exact .inr ⟨0, f0, (hf b z).2, rfl, z⟩
      · cases hb
    · cases e
  · split at e
    · rename_i ks xs d o' ys hlen
      rw [Option.map_eq_some_iff] at e
      obtain ⟨ky, e1, e2⟩ := e
      cases e2
      obtain ⟨v, y, f0, f1, rfl, rfl, r1, r2⟩ := two rfl
      obtain ⟨u, vs, fq, rfl, hu, hn', ha, rl⟩ := rp.own_node fun b hb => (nf b hb).1
      obtain ⟨⟨hl', nd⟩, rfl⟩ := hn'
      obtain ⟨b, ws2, fq2, rfl, hb, rb, _⟩ := r2.tup hs
      have hf := prot_f (P := fun b => b ∉ a :: fq) (j := 0) (f := f0) hk rfl rfl ap fz
      obtain ⟨us, fr, g1, g2, g3, g4⟩ := putKD_rep r1 (k := ky) rl hl' nd fun b hb hm => (hf b hb).1 (List.mem_cons_of_mem _ hm)
      have haf : a ∉ fr := fun z => by
        rcases g4 a z with z | z
        · exact ha z
        · exact (hf a z).1 (List.mem_cons_self ..)
      refine ⟨v, .ref b, rfl, .inr ⟨a, _, rfl, .inr ⟨_, ky, b, hu, rfl, by rw [hb, keysD_rep e1 rb], by rw [List.length_zip, hl', Nat.min_self, ← hl']; exact hlen, rfl⟩, ?_⟩⟩
      rw [g1]
      refine q _ .non [] (a :: fr) rfl (Rep.mk_own g2 haf ⟨g3, rfl⟩ (by simp)) (.plain rfl) (fun b hb => by cases hb) (fun b hb => ?_) (List.mem_cons_self ..) rfl
      rcases hb with hb | hb
      · rcases List.mem_cons.mp hb with rfl | hb
        · exact .inl (List.mem_cons_self ..)
        · rcases g4 b hb with z | z
          · exact .inl (List.mem_cons_of_mem _ z)
          · exact .inr ⟨0, f0, (hf b z).2, rfl, z⟩
      · cases hb
    · cases e
  · cases e
end
end DL
namespace DL
open PySem PySem.Spec L2
section
variable {X : Cx} {o i : Expr} {to ti : TE} {f : Str} {pos : Pos}
def gFldT (K : PySem.W.Frag) (to : TE) (f : Str) : TG := fun v σ H Q => to σ H fun x H1 => ∃ a C dx fs, x = .ref a ∧ H1 a = some (.ins C dx fs) ∧ Cls K C ∧ NoAttr K C f ∧ fs.length < 1000 ∧ Q σ (upd H1 a (.ins C dx (putF f v fs)))
theorem pg_fldT (ho : PE X o to) : PG X (.Attribute o f pos) (gFldT X.K to f) := by
  refine ⟨fun pins s σ H v u Q I r h => ?_⟩
  rw [assign_Attribute]
  refine wpAny_bind (wpAny_holding (thn (ho.run pins s σ H _ I h) fun ov s1 ⟨x, H1, I1, r1, a, C, dx, fs, ex, ea, c, n, l, q⟩ => ?_))
  subst ex
  obtain rfl : ov = Value.ref a := r1
  refine wpAny_bind (wpAny_standAt (wpAny_bind (wpAny_holding (setattr_ok I1 ea c n l r fun s2 I2 => ?_))))
  exact wpAny_release ⟨σ, _, I2, q⟩
theorem PSet.or {r r' : TSet} (h : PSet X r) (h' : PSet X r') : PSet X (fun o i v H Q => r o i v H Q ∨ r' o i v H Q) := by
  intro pins s σ H o i v ov iv u Q I ro ri rv h0
  rcases h0 with h0 | h0
  · exact h pins s σ H o i v ov iv u Q I ro ri rv h0
  · exact h' pins s σ H o i v ov iv u Q I ro ri rv h0
end
def gPl (i : Nat) (p : FP) (op : D → List D → Option (D × D)) (ks : FA) : Md → D → Evn → Option Evn := fun md d env => match md with
  | .own => (match p env, ks env with
    | some (sub, g), .ok as _ => (op sub (d :: as)).map fun x => putE i (.own (g x.2)) env
    | _, _ => none)
  | .bor _ => none
section
variable {K : PySem.W.Frag} {W : WX} {ε : Bool} {F H F1 H1 F2 H2 F' H' F0 H0 : Hp} {env env1 env2 env' env0 : Evn} {fp fp1 fp2 fp' fp0 : Fp} {Z : Zst} {σ : L2.St} {ms : List Nat}
theorem gpl_core {i : Nat} {d1 d sub sub' rd : D} {g : D → D} {v w : V} {a : Addr} {fs fr : List Addr} {as : List D} {ws : List V} {frs : List (List Addr)} {op : D → List D → Option (D × D)} {r : V → List V → Hp → VK → Prop} {ks : List Kd} {md : Md} {Q : L2.St → Hp → Prop}
    (gr : Grow F H F1 H1) (e0 : Ev true F0 H0 env0 fp0 F H env fp) (r0 : R K Z F H env σ fp) (h1 : env[i]? = some (.own d1)) (hv : σ[i]? = some (some v)) (foc1 : Foc K F1 H1 v (fp i) (.ref a) fs sub g)
    (rep0 : Rep K F H d w fr) (vm : VMo H0 env0 fp0 Z F H env fp fr md) (hmd : md = .own) (rep : RepA K F1 H1 as ws frs) (hZ : ∀ f ∈ frs, f = []) (hks : ks.length = as.length) (hnk : ∀ k ∈ ks, k ≠ Kd.own)
    (mo : MOp K r op (.own :: ks)) (hop : op sub (d :: as) = some (rd, sub'))
    (hq : ∀ H' fp', Ev true F0 H0 env0 fp0 F1 H' (putE i (.own (g sub')) env) fp' → R K Z F1 H' (putE i (.own (g sub')) env) σ fp' → SubA H env (putE i (.own (g sub')) env) fp fp' fr → md.keeps fr F H F1 H' env (putE i (.own (g sub')) env) fp fp' → Q σ H') : r (.ref a) (w :: ws) H1 (fun _ H' => Q σ H') := by
  have r1 := r0.grow gr
  have ow : isOwn env i := ⟨d1, h1⟩
  have hi : i < env.length := (List.getElem?_eq_some_iff.mp h1).1
  have own : ∀ b ∈ fr, (H0 b = none ∨ OwnA env0 fp0 b) ∧ (∀ j, hold env j → b ∉ fp j) ∧ (¬ Z.B b ∧ F b = none) ∧ NF H b := by
    subst hmd
    exact vm
  have hk0 : ∀ (j : Nat), (Kd.own :: ks)[j]? = some .own → j = 0 := fun j e => by
    cases j with
    | zero => rfl
    | succ j => exact absurd rfl (hnk _ (List.mem_of_getElem? (by simpa using e)))
  -- relative to the beginning of this target
  have rep1 : RepA K F1 H1 (d :: as) (w :: ws) (fr :: frs) := ⟨rep0.grow gr, rep⟩
  have zF : ∀ (j : Nat) (f : List Addr), (Kd.own :: ks)[j]? = some .frz → (fr :: frs)[j]? = some f → f = [] := fun j f e1 e2 => by
    cases j with
    | zero => simp at e1
    | succ j => exact hZ f (List.mem_of_getElem? (by simpa using e2))
  have hF1 : ∀ b ∈ fr, F1 b = none := fun b hb => by
    cases q : F1 b with
    | none => rfl
    | some u => exact absurd (gr.new b (own b hb).2.2.1.2 (by rw [q]; exact fun z => by cases z)) (Rep.dom d w fr rep0 b hb)
  have nf1 : ∀ b ∈ fr, NF H1 b := fun b hb o u ho => (own b hb).2.2.2 o u (gr.nofz b o u ho)
  refine mut_core (ks := Kd.own :: ks) (Z := Z) (σ := σ) (F0 := F0) (H0 := H0) (env0 := env0) (fp0 := fp0) ((e0.trans (ε2 := true) gr.ev).mono (fun _ => rfl) fun z => by cases z) r1 h1 hv foc1 rep1 (fun j f e1 e2 b hb => ?_) zF (by rw [List.length_cons, List.length_cons, hks]) mo hop fun u' fn u fr' hz hin hfn e2 r2 rp2 ko2 => ?_
  · have z := hk0 j e1
    subst z
    simp at e2
    subst e2
    exact ⟨(own b hb).1, (own b hb).2.1, ⟨(own b hb).2.2.1.1, hF1 b hb⟩, nf1 b hb⟩
  · have hh : hold env i := .inl ow
    have inF : ∀ b ∈ fn, b ∈ fp i ∨ b ∈ fr := fun b hb => by
      rcases hfn b hb with z | ⟨j, f, e1, e3, e4⟩
      · exact .inl z
      · have z := hk0 j e1
        subst z
        simp at e3
        subst e3
        exact .inr e4
    refine hq _ _ e2 r2 ⟨fun b ⟨j, hj, hb⟩ => ?_, fun b ⟨j, hj, hb⟩ => ?_⟩ ⟨fun b o ho hn hf => ?_, fun b hb => ?_, fun b o u ho => gr.nofz b o u (nofz_upd hz b o u ho), fun j hj => ?_, gr.sub, gr.new⟩
    · by_cases e : j = i
      · subst e
        rw [fset_same] at hb
        exact (inF b hb).imp (fun z => ⟨j, ow, z⟩) .inl
      · rw [fset_ne e] at hb
        exact .inl ⟨j, (isOwn_put e).mp hj, hb⟩
    · by_cases e : j = i
      · subst e
        obtain ⟨d', q⟩ := hj
        rw [putE_same hi] at q
        cases q
      · rw [fset_ne e] at hb
        exact ⟨j, (isLk_put e).mp hj, hb⟩
    · have ne : b ≠ a := fun z => hn ⟨i, ow, by rw [z]; exact hin⟩
      rw [upd_ne ne]
      exact gr.keep b o ho
    · by_cases e : b = a
      · rw [e, upd_same]; exact fun z => by cases z
      · rw [upd_ne e]; exact gr.dom hb
    · rw [hmd] at hj
      cases hj
end
section
variable {X : Cx} {W : WX} {ε : Bool} {ms : List Nat} {i : Nat} {o e ie : Expr} {es : List Expr} {p : FP} {fi fe : FE} {fa : FA} {f : Str} {pos cpos apos : Pos} {k : Kd}
theorem Foc.ref {K : PySem.W.Frag} {F H : Hp} {v w : V} {fp fs : List Addr} {s : Sh} {xs : List D} {g : D → D} (h : Foc K F H v fp w fs (.node true s xs) g) : ∃ a, w = .ref a := by
  have z := h.rep
  simp only [Rep] at z
  obtain ⟨a, _, _, _, e, _⟩ := z
  exact ⟨a, e⟩
theorem opSetF_node {cl f : Str} {sub : D} {ds : List D} {x : D × D} (h : opSetF cl f sub ds = some x) : ∃ s xs, sub = .node true s xs := by
  unfold opSetF at h
  split at h
  · exact ⟨_, _, rfl⟩
  · cases h
theorem opSetI_node {sub : D} {ds : List D} {x : D × D} (h : opSetI sub ds = some x) : ∃ s xs, sub = .node true s xs := by
  unfold opSetI at h
  split at h
  · exact ⟨_, _, rfl⟩
  · exact ⟨_, _, rfl⟩
  · exact ⟨_, _, rfl⟩
  · cases h
theorem dg_fld (cl : Str) (h : DPl X i o p) (hc : (He.Fa.cls cl).ok X.K = true) (hn : (He.Fa.noat cl f).ok X.K = true) : DG X ms (.Attribute o f pos) (gPl i p (opSetF cl f) aNil) := by
  obtain ⟨t, p1, s1⟩ := h.ex
  refine ⟨_, pg_fldT p1, ?_⟩
  refine fun Z F0 H0 env0 fp0 F H env σ fp w d fr md Q hm e0 r rep vm ⟨env', hg, hq⟩ => ?_
  unfold gPl at hg
  cases md with
  | bor _ => cases hg
  | own =>
    cases qp : p env with
    | none => simp only [qp] at hg; cases hg
    | some x =>
      obtain ⟨sub, g⟩ := x
      simp only [qp, aNil, Option.map_eq_some_iff] at hg
      obtain ⟨⟨rd, sub'⟩, ho, rfl⟩ := hg
      obtain ⟨d1, h1⟩ := h.own env _ qp
      have s := r.slot i
      unfold SlotR at s
      rw [h1] at s
      obtain ⟨v, hv, _⟩ := s
      obtain ⟨s0, xs0, rfl⟩ := opSetF_node ho
      refine s1 Z F H env σ fp v _ g _ r ⟨d1, h1⟩ hv qp fun F1 H1 w1 fs gr foc => ?_
      obtain ⟨a, rfl⟩ := foc.ref
      have key := gpl_core (ks := []) (md := .own) (r := rSetF X.K f) gr e0 r h1 hv foc rep vm rfl (as := []) (ws := []) (frs := []) trivial (fun _ z => by cases z) rfl (fun _ z => by cases z) (mop_setF rfl hc hn) ho fun H' fp' e2 r2 sa kp => hq σ F1 H' fp' (fun z => by cases z) e2 r2 sa kp
      obtain ⟨a', C, dx, fs', y, ea, ey, h2, h3, h4, h5, h6⟩ := key
      cases ea
      cases ey
      exact ⟨a, C, dx, fs', rfl, h2, h3, h4, h5, h6⟩
theorem dg_sub (hu : X.A.units + 1 < cLine) (h : DPl X i o p) (hi : DE X W false .frz ie fi)
    (ha : ∀ v, assign (.Subscript o ie pos) X.env v = (do
      let ov ← holding [v] (eval o X.env)
      let iv ← holding [v, ov] (eval ie X.env)
      standAt pos
      holding [v, ov, iv] (setItem ov iv v)
      release [v, ov, iv] []) := by intro _; rfl) : DG X ms (.Subscript o ie pos) (gPl i p opSetI (aCons fi aNil)) := by
  obtain ⟨t, p1, s1⟩ := h.ex
  obtain ⟨t2, p2, s2⟩ := hi.ex
  refine ⟨_, pg_sub p1 p2 (PSet.or set_list (set_dict hu)) ha, ?_⟩
  refine fun Z F0 H0 env0 fp0 F H env σ fp w d fr md Q hm e0 r rep vm ⟨env', hg, hq⟩ => ?_
  unfold gPl at hg
  cases md with
  | bor _ => cases hg
  | own =>
    cases qp : p env with
    | none => simp only [qp] at hg; cases hg
    | some x =>
      obtain ⟨sub, g⟩ := x
      simp only [qp] at hg
      unfold aCons at hg
      cases qi : fi env with
      | exc _ _ _ => simp only [qi, Rs.bind_exc] at hg; cases hg
      | stuck => simp only [qi, Rs.bind_stuck] at hg; cases hg
      | ok kd e1 =>
        simp only [qi, aNil, Rs.bind_ok, Rs.map_ok, Option.map_eq_some_iff] at hg
        obtain ⟨⟨rd, sub'⟩, ho, rfl⟩ := hg
        obtain ⟨d1, h1⟩ := h.own env _ qp
        have s := r.slot i
        unfold SlotR at s
        rw [h1] at s
        obtain ⟨v, hv, _⟩ := s
        obtain ⟨s0, xs0, rfl⟩ := opSetI_node ho
        refine s1 Z F H env σ fp v _ g _ r ⟨d1, h1⟩ hv qp fun F1 H1 w1 fs gr foc => ?_
        obtain ⟨a, rfl⟩ := foc.ref
        have r1 := r.grow gr
        refine s2 Z F1 H1 env σ fp _ r1 ?_
        rw [qi]
        intro F2 H2 fp2 y fy ev r2 rp ko
        have g2 := ev.grow r2
        have e0' : fy = [] := ko
        subst e0'
        have foc2 := foc.mono g2.sub fun b hb u hu => hu.same fun o ho => g2.keep b o ho
        have key := gpl_core (ks := [.frz]) (md := .own) (r := rSetI) (gr.trans g2) e0 r h1 hv foc2 rep vm rfl (as := [kd]) (ws := [y]) (frs := [[]]) ⟨rp, trivial⟩ (fun _ z => by simpa using z) rfl (fun _ z => by simp at z; rw [z]; exact fun q => by cases q) (mop_setI rfl) ho fun H' fp' e2 r2 sa kp => hq σ F2 H' fp' (fun z => by cases z) e2 r2 sa kp
        obtain ⟨v', y', ev', h2⟩ := key
        cases ev'
        exact h2
section
theorem de_m1 {T name id : String} {r : V → List V → Hp → VK → Prop} {op : D → List D → Option (D × D)} {ks : List Kd} (pa : PlainAttrs T) (slot : Slot T name id) (hty : typeOf (.builtin id) = pure (.type "method_descriptor")) (hm : MtR X id r) (mo : MOp X.K r op ks) (h : DPl X i o p)
    (ha : DA X W ε ks (e :: es) fa) (hbase : attributeBase o name X.env (eval o X.env) = eval o X.env) (hline : (apos.endLine == cpos.line) = true)
    (hfew : ((backTo cpos (starEach (e :: es) X.env)).all (fun x => !x.1) && (backToKw cpos (keywordEach [] X.env)).all (fun x => x.1.isSome)
      && decide ((e :: es).length + ([] : List Keyword).length + (if ([] : List Keyword).isEmpty then 0 else 1) < 30)) = true)
    (hs : starEach (e :: es) X.env = (false, eval e X.env) :: starEach es X.env) (hplain : (backTo cpos (starEach es X.env)).any (·.1) = false) : DE X W true .own (.Call (.Attribute o name apos) (e :: es) [] cpos) (fMut i p T fa op) := by
  obtain ⟨t, p1, s1⟩ := h.ex
  obtain ⟨ta, p2, s2⟩ := ha.ex
  exact ⟨_, pe_bm pa slot hty hm p1 p2 hbase hfew hline hs hplain, esim_mut s1 h.own s2 mo fun σ H Q h => h⟩
end
end
section
variable {X : Cx} {W : WX} {ε : Bool} {i : Nat} {o e : Expr} {p : FP} {fe : FE} {fa : FA} {cpos apos : Pos} {k : Kd}
theorem de_append (h : DPl X i o p) (ha : DE X W ε k e fe) (hk : k.prot = true := by rfl) (hbase : attributeBase o "append" X.env (eval o X.env) = eval o X.env := by rfl) (hline : (apos.endLine == cpos.line) = true := by rfl)
    (hfew : ((backTo cpos (starEach [e] X.env)).all (fun x => !x.1) && (backToKw cpos (keywordEach [] X.env)).all (fun x => x.1.isSome)
      && decide ([e].length + ([] : List Keyword).length + (if ([] : List Keyword).isEmpty then 0 else 1) < 30)) = true := by rfl)
    (hs : starEach [e] X.env = (false, eval e X.env) :: starEach [] X.env := by rfl) (hplain : (backTo cpos (starEach [] X.env)).any (·.1) = false := by rfl) : DE X W true .own (.Call (.Attribute o "append" apos) [e] [] cpos) (fMut i p "list" (aCons fe aNil) opAppend) :=
  de_m1 PySem.F.plainAttrs_list PySem.F.slot_list_append PySem.F.type_list_append mt_append (mop_append hk) h (da_cons ha da_nil (fun h => by cases h) hs) hbase hline hfew hs hplain
theorem de_popAt (h : DPl X i o p) (ha : DE X W ε k e fe) (hbase : attributeBase o "pop" X.env (eval o X.env) = eval o X.env := by rfl) (hline : (apos.endLine == cpos.line) = true := by rfl)
    (hfew : ((backTo cpos (starEach [e] X.env)).all (fun x => !x.1) && (backToKw cpos (keywordEach [] X.env)).all (fun x => x.1.isSome)
      && decide ([e].length + ([] : List Keyword).length + (if ([] : List Keyword).isEmpty then 0 else 1) < 30)) = true := by rfl)
    (hs : starEach [e] X.env = (false, eval e X.env) :: starEach [] X.env := by rfl) (hplain : (backTo cpos (starEach [] X.env)).any (·.1) = false := by rfl) : DE X W true .own (.Call (.Attribute o "pop" apos) [e] [] cpos) (fMut i p "list" (aCons fe aNil) opPopAt) :=
  de_m1 PySem.F.plainAttrs_list PySem.F.slot_list_pop PySem.F.type_list_pop mt_popAt mop_popAt h (da_cons ha da_nil (fun h => by cases h) hs) hbase hline hfew hs hplain
end
end DL
namespace DL
open PySem PySem.Spec L2
def loopD (g : D → Evn → Option Evn) (fb : FS) : List D → Evn → So
  | [], env => .nxt env
  | x :: xs, env => match g x env with
    | none => .stuck
    | some e1 => match fb e1 with
      | .nxt e2 => loopD g fb xs e2
      | .cnt e2 => loopD g fb xs e2
      | .brk e2 => .nxt e2
      | .ret d e2 => .ret d e2
      | .exc c x e2 => .exc c x e2
      | .stuck => .stuck
def lkD' (env : Evn) (i : Nat) : Bool := (lkD env i).isSome
def rootB (md : Md) (env : Evn) : Bool := match md with
  | .bor (some m) => lkD' env m
  | _ => true
def gChk (md : Md) (g : Md → D → Evn → Option Evn) : D → Evn → Option Evn := fun d env => if rootB md env = true then g md d env else none
section
variable {K : PySem.W.Frag} {W : WX} {ε : Bool} {F H F1 H1 F2 H2 F' H' F0 H0 : Hp} {env env1 env2 env' env0 : Evn} {fp fp1 fp2 fp' fp0 : Fp} {Z : Zst} {σ σ1 : L2.St} {ms : List Nat} {D_ : Ends}
structure IInv (K : PySem.W.Frag) (Z : Zst) (F1 H1 : Hp) (env1 : Evn) (fp1 : Fp) (J : It) (items : List D) (md : Md) (P : Nat → Hp → Hp → Evn → Fp → Prop) : Prop where
  go : ∀ F H env fp σ i d, P i F H env fp → R K Z F H env σ fp → rootB md env = true → items[i]? = some d → J.go i H ∧ ∀ x H', J.yld i H x H' → ∃ F' fr, Grow F H F' H' ∧ Rep K F' H' d x fr ∧ VMo H1 env1 fp1 Z F' H' env fp fr md ∧
    ∀ F2 H2 env2 fp2, Ev true F1 H1 env1 fp1 F2 H2 env2 fp2 → SubA H' env env2 fp fp2 fr → md.keeps fr F' H' F2 H2 env env2 fp fp2 → P (i + 1) F2 H2 env2 fp2
  stop : ∀ F H env fp σ i, P i F H env fp → R K Z F H env σ fp → items.length ≤ i → J.stop i H
  ev : ∀ F H env fp σ i F' H' env' fp', P i F H env fp → R K Z F H env σ fp → Ev true F H env fp F' H' env' fp' → P i F' H' env' fp'
structure IOk (K : PySem.W.Frag) (Z : Zst) (F1 H1 : Hp) (env1 : Evn) (fp1 : Fp) (J : It) (items : List D) (md : Md) : Prop where
  go : ∀ F H env fp σ i d, Ev true F1 H1 env1 fp1 F H env fp → R K Z F H env σ fp → rootB md env = true → items[i]? = some d → J.go i H ∧ ∀ x H', J.yld i H x H' → ∃ F' fr, Grow F H F' H' ∧ Rep K F' H' d x fr ∧ ∀ H0 env0 fp0, VMo H0 env0 fp0 Z F' H' env fp fr md
  stop : ∀ F H env fp σ i, Ev true F1 H1 env1 fp1 F H env fp → R K Z F H env σ fp → items.length ≤ i → J.stop i H
theorem IOk.inv {J : It} {items : List D} {md : Md} (h : IOk K Z F1 H1 env1 fp1 J items md) : IInv K Z F1 H1 env1 fp1 J items md (fun _ F H env fp => Ev true F1 H1 env1 fp1 F H env fp) where
  go := fun F H env fp σ i d ev r hb hi => by
    obtain ⟨h1, h2⟩ := h.go F H env fp σ i d ev r hb hi
    refine ⟨h1, fun x H' hy => ?_⟩
    obtain ⟨F', fr, gr, rp, vm⟩ := h2 x H' hy
    exact ⟨F', fr, gr, rp, vm H1 env1 fp1, fun F2 H2 env2 fp2 e _ _ => e⟩
  stop := h.stop
  ev := fun F H env fp σ i F' H' env' fp' p r e => (p.trans e).mono (fun _ => rfl) fun z => by cases z
theorem SPost.nx {D1 D2 : Ends} {o : So} (h : SPost K W Z F H env fp D1 o) (hn : ∀ e, o = .nxt e → SPost K W Z F H env fp D2 (.nxt e)) (hr : ∀ v H, D1.rt v H → D2.rt v H) (hb : ∀ e, o = .brk e → SPost K W Z F H env fp D2 (.brk e)) (hc : ∀ e, o = .cnt e → SPost K W Z F H env fp D2 (.cnt e)) : SPost K W Z F H env fp D2 o := by
  cases o with
  | nxt e => exact hn e rfl
  | brk e => exact hb e rfl
  | cnt e => exact hc e rfl
  | ret d e => exact fun F' H' fp' σ' v fr e1 r1 rp ko => hr _ _ (h F' H' fp' σ' v fr e1 r1 rp ko)
  | exc c x e => exact h
  | stuck => exact h
theorem loop_simP {J : It} {g : TG} {tb : TS} {gD : Md → D → Evn → Option Evn} {fb : FS} {items : List D} {md : Md} {P : Nat → Hp → Hp → Evn → Fp → Prop} {F9 H9 : Hp} {env9 : Evn} {fp9 : Fp} (io : IInv K Z F1 H1 env1 fp1 J items md P) {b : Bool} (hg : GSim K b ms g gD) (hb : SSim K W ms tb fb) (hm : ∀ p ∈ Z.pins, p.1 ∈ ms)
    (r1 : R K Z F9 H9 env9 σ1 fp9) (e9 : Ev true F1 H1 env1 fp1 F9 H9 env9 fp9) (p1 : P 0 F9 H9 env9 fp9)
    (h : SPost K W Z F1 H1 env1 fp1 D_ (loopD (gChk md gD) fb items env9)) : ∃ W : Nat → Nat → L2.St → Hp → Prop, (∃ m, W 0 m σ1 H9) ∧ ∀ i m σ H, W i m σ H →
      (J.stop i H ∧ D_.nx σ H) ∨ (J.go i H ∧ ∃ N : L2.St → Hp → Prop, (∀ σ' H', N σ' H' → ∃ m', m' < m ∧ W (i + 1) m' σ' H') ∧ ∀ x H', J.yld i H x H' → g x σ H' fun σ2 H2 => tb { D_ with nx := N, ct := N, bk := D_.nx } σ2 H2) := by
  refine ⟨fun i m σ H => m = items.length - i ∧ ∃ F env fp, R K Z F H env σ fp ∧ Ev true F1 H1 env1 fp1 F H env fp ∧ P i F H env fp ∧ SPost K W Z F1 H1 env1 fp1 D_ (loopD (gChk md gD) fb (items.drop i) env), ⟨items.length, rfl, F9, env9, fp9, r1, e9, p1, h⟩, ?_⟩
  rintro i m σ H ⟨rfl, F, env, fp, r, ev, pi, hp⟩
  by_cases hi : i < items.length
  · have hd : items[i]? = some items[i] := List.getElem?_eq_getElem hi
    have hp' := hp
    rw [List.drop_eq_getElem_cons hi] at hp'
    unfold loopD gChk at hp'
    by_cases hrb : rootB md env = true
    case neg => rw [if_neg hrb] at hp'; exact hp'.elim
    rw [if_pos hrb] at hp'
    obtain ⟨hgo, hy⟩ := io.go F H env fp σ i _ pi r hrb hd
    refine .inr ⟨hgo, fun σ' H' => ∃ F' env' fp', R K Z F' H' env' σ' fp' ∧ Ev true F1 H1 env1 fp1 F' H' env' fp' ∧ P (i + 1) F' H' env' fp' ∧ SPost K W Z F1 H1 env1 fp1 D_ (loopD (gChk md gD) fb (items.drop (i + 1)) env'), fun σ' H' ⟨F', env', fp', a, b, p, c⟩ => ⟨items.length - (i + 1), by omega, rfl, F', env', fp', a, b, p, c⟩, fun x H' hyx => ?_⟩
    obtain ⟨F', fr, gr, rp, vm, pn⟩ := hy x H' hyx
    replace hp := hp'
    cases q : gD md items[i] env with
    | none => rw [q] at hp; exact hp.elim
    | some e1 =>
      rw [q] at hp
      have ev' : Ev true F1 H1 env1 fp1 F' H' env fp := (ev.trans (ε2 := true) gr.ev).mono (fun _ => rfl) fun z => by cases z
      refine hg Z F1 H1 env1 fp1 F' H' env σ fp x _ fr md _ hm ev' (r.grow gr) rp vm ⟨e1, q, fun σ2 F2 H2 fp2 _ ev2 r2 sa kp => ?_⟩
      have p2 := pn F2 H2 e1 fp2 ev2 sa kp
      refine hb Z F2 H2 e1 σ2 fp2 _ hm r2 ?_
      simp only at hp
      cases qb : fb e1 with
      | nxt e2 =>
        rw [qb] at hp
        exact fun F3 H3 fp3 σ3 ev3 r3 => ⟨F3, e2, fp3, r3, (ev2.trans ev3).mono (fun _ => rfl) (fun z => by cases z), io.ev _ _ _ _ σ2 _ _ _ _ _ p2 r2 ev3, hp⟩
      | cnt e2 =>
        rw [qb] at hp
        exact fun F3 H3 fp3 σ3 ev3 r3 => ⟨F3, e2, fp3, r3, (ev2.trans ev3).mono (fun _ => rfl) (fun z => by cases z), io.ev _ _ _ _ σ2 _ _ _ _ _ p2 r2 ev3, hp⟩
      | brk e2 =>
        rw [qb] at hp
        exact fun F3 H3 fp3 σ3 ev3 r3 => hp F3 H3 fp3 σ3 ((ev2.trans ev3).mono (fun _ => rfl) (fun z => by cases z)) r3
      | ret d e2 =>
        rw [qb] at hp
        exact fun F3 H3 fp3 σ3 v fr ev3 r3 rp3 ko3 => hp F3 H3 fp3 σ3 v fr ((ev2.trans ev3).mono (fun _ => rfl) (fun z => by cases z)) r3 rp3 (ko3.rel ev2)
      | exc c x e2 =>
        rw [qb] at hp
        exact fun F3 H3 fp3 σ3 dx ev3 r3 rp3 => hp F3 H3 fp3 σ3 dx ((ev2.trans ev3).mono (fun _ => rfl) (fun z => by cases z)) r3 rp3
      | stuck => rw [qb] at hp; exact hp.elim
  · refine .inl ⟨io.stop F H env fp σ i pi r (by omega), ?_⟩
    rw [List.drop_eq_nil_of_le (by omega)] at hp
    exact hp F H fp σ ev r
theorem loop_sim {J : It} {g : TG} {tb : TS} {gD : Md → D → Evn → Option Evn} {fb : FS} {items : List D} {md : Md} (io : IOk K Z F1 H1 env1 fp1 J items md) {b : Bool} (hg : GSim K b ms g gD) (hb : SSim K W ms tb fb) (hm : ∀ p ∈ Z.pins, p.1 ∈ ms) (r1 : R K Z F1 H1 env1 σ1 fp1)
    (h : SPost K W Z F1 H1 env1 fp1 D_ (loopD (gChk md gD) fb items env1)) : ∃ W : Nat → Nat → L2.St → Hp → Prop, (∃ m, W 0 m σ1 H1) ∧ ∀ i m σ H, W i m σ H →
      (J.stop i H ∧ D_.nx σ H) ∨ (J.go i H ∧ ∃ N : L2.St → Hp → Prop, (∀ σ' H', N σ' H' → ∃ m', m' < m ∧ W (i + 1) m' σ' H') ∧ ∀ x H', J.yld i H x H' → g x σ H' fun σ2 H2 => tb { D_ with nx := N, ct := N, bk := D_.nx } σ2 H2) :=
  loop_simP io.inv hg hb hm r1 (Ev.refl (Z := Z) _ rfl) (Ev.refl (Z := Z) _ rfl) h
def lockR (md : Md) (env : Evn) : Evn := match md with
  | .bor (some m) => lockE m env
  | _ => env
def unlR (md : Md) (env0 env : Evn) : Option Evn := match md with
  | .bor (some m) => (match env0[m]? with
    | some (.own _) => (lkD env m).map fun d => env.set m (.own d)
    | _ => some env)
  | _ => some env
def optSo (o : Option Evn) (k : Evn → So) : So := match o with
  | some e => k e
  | none => .stuck
@[simp] theorem optSo_some (e : Evn) (k : Evn → So) : optSo (some e) k = k e := (rfl)
@[simp] theorem optSo_none (k : Evn → So) : optSo none k = .stuck := (rfl)
def So.unl (u : Evn → Option Evn) : So → So
  | .nxt e => optSo (u e) .nxt
  | .brk e => optSo (u e) .brk
  | .cnt e => optSo (u e) .cnt
  | .ret d e => optSo (u e) (.ret d)
  | .exc c x e => optSo (u e) (.exc c x)
  | .stuck => .stuck
def rootHold (env : Evn) : Md → Prop
  | .bor (some m) => hold env m
  | _ => True
theorem lockR_R {md : Md} (r : R K Z F H env σ fp) : R K Z F H (lockR md env) σ fp := by
  unfold lockR
  split
  · rename_i m
    unfold lockE
    split
    · rename_i d q
      exact r.lock q
    · exact r
  · exact r
theorem lockR_own {md : Md} {j : Nat} (h : isOwn (lockR md env) j) : isOwn env j := by
  cases md with
  | own => exact h
  | bor m =>
    cases m with
    | none => exact h
    | some m =>
      have h' : isOwn (lockE m env) j := h
      unfold lockE at h'
      split at h'
      · rename_i d q
        exact ((lock_own q).mp h').1
      · exact h'
theorem root_lk {m : Nat} (h : hold env m) : isLk (lockE m env) m := by
  unfold lockE
  split
  · rename_i d q
    exact (lock_lk q).mpr (.inr rfl)
  · rename_i q
    rcases h with ⟨d, e⟩ | h
    · exact absurd e (q d)
    · exact h
theorem unl_ev {md : Md} {u : Evn} (r : R K Z F H env σ fp) (e : Ev ε F H (lockR md env) fp F' H' env' fp') (r' : R K Z F' H' env' σ1 fp') (hu : unlR md env env' = some u) :
    Ev ε F H env fp F' H' u fp' ∧ R K Z F' H' u σ1 fp' ∧ (∀ a, OwnA u fp' a → OwnA env' fp' a ∨ LkA env' fp' a) := by
  unfold unlR at hu
  unfold lockR at e
  split at hu
  · rename_i m
    simp only at e
    cases q : env[m]? with
    | none =>
      simp only [q] at hu
      cases hu
      unfold lockE at e
      simp only [q] at e
      exact ⟨e, r', fun a h => .inl h⟩
    | some t =>
      cases t with
      | own d =>
        simp only [q] at hu
        rw [Option.map_eq_some_iff] at hu
        obtain ⟨d1, h1, rfl⟩ := hu
        have hl := lkD_get h1
        rw [lockE_own q] at e
        have d10 : d1 = d := by
          obtain ⟨z, _⟩ := e.lks m ⟨d1, hl⟩
          rw [set_get q, if_pos rfl, hl] at z
          cases z
          rfl
        subst d10
        refine ⟨e.unlk q hl, r'.unlk hl fun b hb o w hz => ?_, fun a ⟨j, hj, ha⟩ => ?_⟩
        · obtain ⟨_, z⟩ := e.lks m ⟨_, hl⟩
          rw [z] at hb
          exact r.nf m ⟨_, q⟩ b hb o w (e.nofz b o w hz)
        · rcases (unlk_own hl).mp hj with z | rfl
          · exact .inl ⟨j, z, ha⟩
          · exact .inr ⟨j, ⟨_, hl⟩, ha⟩
      | dead =>
        simp only [q] at hu
        cases hu
        unfold lockE at e
        simp only [q] at e
        exact ⟨e, r', fun a h => .inl h⟩
      | bor _ _ =>
        simp only [q] at hu
        cases hu
        unfold lockE at e
        simp only [q] at e
        exact ⟨e, r', fun a h => .inl h⟩
  · rename_i hne
    cases hu
    have e' : Ev ε F H env fp F' H' env' fp' := by
      cases md with
      | own => exact e
      | bor m =>
        cases m with
        | none => exact e
        | some m => exact (hne m rfl).elim
    exact ⟨e', r', fun a h => .inl h⟩
theorem SPost.lock {md : Md} {o : So} (r : R K Z F H env σ fp) (h : SPost K W Z F H env fp D_ (o.unl (unlR md env))) : SPost K W Z F H (lockR md env) fp D_ o := by
  cases o with
  | stuck => exact h
  | nxt e =>
    simp only [So.unl] at h
    cases q : unlR md env e with
    | none => rw [q] at h; exact h.elim
    | some u =>
      rw [q] at h
      exact fun F' H' fp' σ' ev r' => let z := unl_ev r ev r' q; h F' H' fp' σ' z.1 z.2.1
  | brk e =>
    simp only [So.unl] at h
    cases q : unlR md env e with
    | none => rw [q] at h; exact h.elim
    | some u =>
      rw [q] at h
      exact fun F' H' fp' σ' ev r' => let z := unl_ev r ev r' q; h F' H' fp' σ' z.1 z.2.1
  | cnt e =>
    simp only [So.unl] at h
    cases q : unlR md env e with
    | none => rw [q] at h; exact h.elim
    | some u =>
      rw [q] at h
      exact fun F' H' fp' σ' ev r' => let z := unl_ev r ev r' q; h F' H' fp' σ' z.1 z.2.1
  | exc c x e =>
    simp only [So.unl] at h
    cases q : unlR md env e with
    | none => rw [q] at h; exact h.elim
    | some u =>
      rw [q] at h
      exact fun F' H' fp' σ' dx ev r' rp => let z := unl_ev r ev r' q; h F' H' fp' σ' dx z.1 z.2.1 rp
  | ret d e =>
    simp only [So.unl] at h
    cases q : unlR md env e with
    | none => rw [q] at h; exact h.elim
    | some u =>
      rw [q] at h
      refine fun F' H' fp' σ' v fr ev r' rp ko => ?_
      obtain ⟨z1, z2, z3⟩ := unl_ev r ev r' q
      refine h F' H' fp' σ' v fr z1 z2 rp fun a ha => ?_
      obtain ⟨k1, k2, k3⟩ := ko a ha
      have ap := (lockR_R r).apart ev ko
      refine ⟨k1.imp id fun ⟨j, hj, hm⟩ => ⟨j, lockR_own hj, hm⟩, fun hz => ?_, k3⟩
      rcases z3 a hz with y | ⟨j, hj, hm⟩
      · exact k2 y
      · exact ap.1 j (.inr hj) a ha hm
end
end DL
namespace DL
open PySem PySem.Spec L2
section
variable {K : PySem.W.Frag} {W : WX} {ε : Bool} {F H F1 H1 F2 H2 F' H' F0 H0 : Hp} {env env1 env2 env' env0 : Evn} {fp fp1 fp2 fp' fp0 : Fp} {Z : Zst} {σ σ1 : L2.St} {ms : List Nat} {D_ : Ends}
def Wlk (Z : Zst) (env1 : Evn) (fp1 : Fp) (fr : List Addr) : Md → Prop
  | .own => fr = []
  | .bor none => ∀ a ∈ fr, Z.B a
  | .bor (some m) => isLk env1 m ∧ ∀ a ∈ fr, a ∈ fp1 m
theorem Wlk.no {md : Md} {fr : List Addr} (h : Wlk Z env1 fp1 fr md) (r : R K Z F1 H1 env1 σ1 fp1) : ∀ a ∈ fr, ¬ OwnA env1 fp1 a := fun a ha z => by
  cases md with
  | own =>
    have h' : fr = [] := h
    rw [h'] at ha
    cases ha
  | bor m =>
    cases m with
    | none => exact r.own_B z (h a ha)
    | some m => exact r.own_lk z ⟨m, h.1, h.2 a ha⟩
theorem Wlk.rep {md : Md} {fr : List Addr} {d : D} {v : V} (h : Wlk Z env1 fp1 fr md) (r : R K Z F1 H1 env1 σ1 fp1) (ev : Ev true F1 H1 env1 fp1 F H env fp) (rp : Rep K F1 H1 d v fr) : Rep K F H d v fr :=
  rp.ev ev fun _ => h.no r
theorem lkD_isLk {m : Nat} (h : lkD' env m = true) : isLk env m := by
  unfold lkD' at h
  rw [Option.isSome_iff_exists] at h
  obtain ⟨d, hd⟩ := h
  exact ⟨d, lkD_get hd⟩
theorem Wlk.vm {md : Md} {fr fq : List Addr} (h : Wlk Z env1 fp1 fr md) (ev : Ev true F1 H1 env1 fp1 F H env fp) (hb : rootB md env = true) (hs : ∀ a ∈ fq, a ∈ fr) : ∀ H0 env0 fp0, VMo H0 env0 fp0 Z F H env fp fq md := fun H0 env0 fp0 => by
  cases md with
  | own =>
    have h' : fr = [] := h
    exact fun a ha => by have z := hs a ha; rw [h'] at z; cases z
  | bor m =>
    cases m with
    | none => exact fun a ha => h a (hs a ha)
    | some m =>
      have hl : isLk env m := lkD_isLk hb
      exact ⟨.inr hl, fun a ha => by rw [(ev.lks m hl).2]; exact h.2 a (hs a ha)⟩
def seqD : D → Option (List D)
  | .node _ .lst xs => some xs
  | .node _ .tup xs => some xs
  | _ => none
theorem io_list {o : Bool} {xs : List D} {a : Addr} {fr : List Addr} {md : Md} (h : Wlk Z env1 fp1 fr md) (r1 : R K Z F1 H1 env1 σ1 fp1) (rp : Rep K F1 H1 (.node o .lst xs) (.ref a) fr) : IOk K Z F1 H1 env1 fp1 (Itl K a) xs md where
  go := fun F H env fp σ i d ev r hb hi => by
    obtain ⟨a', vs, fq, ea, ha, rl, sb⟩ := (h.rep r1 ev rp).lst r.sub
    cases ea
    obtain ⟨x, fc, e1, e2, e3⟩ := rl.get _ _ _ i d hi
    refine ⟨⟨vs, x, .inl (.inl ha), e1⟩, fun y H' ⟨eH, hy⟩ => ?_⟩
    subst eH
    have q := hy vs (.inl (.inl ha))
    rw [e1] at q
    cases q
    exact ⟨F, fc, Grow.refl r.sub, e2, h.vm ev hb fun b hb => sb b (e3 b hb)⟩
  stop := fun F H env fp σ i ev r hi => by
    obtain ⟨a', vs, fq, ea, ha, rl, sb⟩ := (h.rep r1 ev rp).lst r.sub
    cases ea
    exact ⟨vs, .inl (.inl ha), by rw [rl.len]; exact hi⟩
theorem io_tup {o : Bool} {xs : List D} {a : Addr} {fr : List Addr} {md : Md} (h : Wlk Z env1 fp1 fr md) (r1 : R K Z F1 H1 env1 σ1 fp1) (rp : Rep K F1 H1 (.node o .tup xs) (.ref a) fr) : IOk K Z F1 H1 env1 fp1 (Itt K a) xs md where
  go := fun F H env fp σ i d ev r hb hi => by
    obtain ⟨a', vs, fq, ea, ha, rl, sb⟩ := (h.rep r1 ev rp).tup r.sub
    cases ea
    obtain ⟨x, fc, e1, e2, e3⟩ := rl.get _ _ _ i d hi
    refine ⟨⟨vs, x, .inl (.inl ha), e1⟩, fun y H' ⟨eH, hy⟩ => ?_⟩
    subst eH
    have q := hy vs (.inl (.inl ha))
    rw [e1] at q
    cases q
    exact ⟨F, fc, Grow.refl r.sub, e2, h.vm ev hb fun b hb => sb b (e3 b hb)⟩
  stop := fun F H env fp σ i ev r hi => by
    obtain ⟨a', vs, fq, ea, ha, rl, sb⟩ := (h.rep r1 ev rp).tup r.sub
    cases ea
    exact ⟨vs, .inl (.inl ha), by rw [rl.len]; exact hi⟩
def rangeD (lo : Int) (n : Nat) : List D := (List.range n).map fun (i : Nat) => .int (lo + (i : Int))
theorem io_range {lo : Int} {n : Nat} : IOk K Z F1 H1 env1 fp1 (Itr lo n) (rangeD lo n) .own where
  go := fun F H env fp σ i d ev r hb hi => by
    unfold rangeD at hi
    rw [List.getElem?_map, Option.map_eq_some_iff] at hi
    obtain ⟨j, e1, rfl⟩ := hi
    have e2 := List.getElem?_range (n := n) (i := i)
    have hlt : i < n := by
      have := (List.getElem?_eq_some_iff.mp e1).1
      simpa using this
    rw [List.getElem?_eq_getElem (by simpa using hlt), List.getElem_range] at e1
    cases e1
    refine ⟨hlt, fun x H' ⟨eH, ex⟩ => ?_⟩
    subst eH ex
    exact ⟨F, [], Grow.refl r.sub, .plain rfl, fun _ _ _ a ha => by cases ha⟩
  stop := fun F H env fp σ i ev r hi => by
    unfold rangeD at hi
    rw [List.length_map, List.length_range] at hi
    exact hi
theorem R.frzV {d : D} {v : V} {fr : List Addr} (r : R K Z F H env σ fp) (rp : Rep K F H d v fr) (h : ∀ a ∈ fr, (∀ j, hold env j → a ∉ fp j) ∧ (¬ Z.B a ∧ F a = none) ∧ NF H a) :
    ∃ F', R K Z F' H env σ fp ∧ (∀ a u, F a = some u → F' a = some u) ∧ (∀ a, F a = none → F' a ≠ none → a ∈ fr) ∧ Rep K F' H d.fz v [] := by
  have hF : ∀ a u, F a = some u → (if a ∈ fr then H a else F a) = some u := fun a u ha => by
    rw [if_neg (fun z => by rw [(h a z).2.1.2] at ha; cases ha)]
    exact ha
  have up : ∀ {d v f}, Rep K F H d v f → Rep K (fun a => if a ∈ fr then H a else F a) H d v f := fun {d v f} x => Rep.mono hF d v f (fun a _ u hu => hu) x
  refine ⟨fun a => if a ∈ fr then H a else F a, ⟨fun a u ha => ?_, fun i => (r.slot i).map fun d v x => up x, r.sep, r.sepB, fun i hi a ha => ?_, r.domB, r.pin, fun p hp => up (r.gh p hp), r.len, r.nf⟩, hF, fun a h1 h2 => ?_, Rep.freeze hF d v fr (fun a ha u hu => ?_) rp⟩
  · by_cases z : a ∈ fr
    · simp only [if_pos z] at ha
      exact .inl ha
    · simp only [if_neg z] at ha
      exact r.sub a u ha
  · have z : a ∉ fr := fun z => (h a z).1 i hi ha
    simp only [if_neg z]
    exact r.hF i hi a ha
  · by_cases z : a ∈ fr
    · exact z
    · simp only [if_neg z] at h2
      exact absurd h1 h2
  · simp only [if_pos ha]
    exact hu.nf (h a ha).2.2
def walkD (k : Kd) (d : D) (env : Evn) : Option (Md × D) := match k with
  | .own => some (.own, d.fz)
  | .frz => some (.own, d)
  | .bor j => if d.frz = true then some (.own, d) else (mdOf (.bor j) env).map fun md => (md, d)
theorem walk_ok {k : Kd} {d d' : D} {v : V} {fr : List Addr} {md : Md} (r0 : R K Z F0 H0 env0 σ fp0) (ev : Ev ε F0 H0 env0 fp0 F H env fp) (r : R K Z F H env σ fp) (rp : Rep K F H d v fr) (ko : KOk k H0 env0 fp0 F env fp fr) (h : walkD k d env = some (md, d')) :
    ∃ F1 fr1, (∀ a u, F a = some u → F1 a = some u) ∧ R K Z F1 H env σ fp ∧ Ev ε F0 H0 env0 fp0 F1 H env fp ∧ Rep K F1 H d' v fr1 ∧ Wlk Z (lockR md env) fp fr1 md := by
  cases k with
  | own =>
    cases h
    obtain ⟨ap1, ap2⟩ := r0.apart ev ko
    obtain ⟨F1, q1, q2, q3, q4⟩ := r.frzV rp fun a ha => ⟨fun j hj => ap1 j hj a ha, ap2 a ha⟩
    refine ⟨F1, [], q2, q1, ⟨ev.keep, fun a u h => q2 a u (ev.sub a u h), fun a h n => ?_, ev.own, ev.lks, ev.nofz, ev.dom, ev.pure⟩, q4, rfl⟩
    by_cases z : F a = none
    · have w := q3 a z n
      rcases (ko a w).1 with y | y
      · exact .inl y
      · cases ε with
        | true => exact .inr ⟨rfl, y⟩
        | false =>
          exfalso
          obtain ⟨e1, e2⟩ := ev.pure rfl
          subst e1 e2
          exact (ko a w).2.1 y
    · exact ev.new a h z
  | frz =>
    cases h
    exact ⟨F, fr, fun _ _ h => h, r, ev, rp, ko⟩
  | bor j =>
    unfold walkD at h
    simp only at h
    split at h
    · rename_i z
      cases h
      have e := Rep.frz_nil d v fr z rp
      exact ⟨F, fr, fun _ _ h => h, r, ev, rp, e⟩
    · rw [Option.map_eq_some_iff] at h
      obtain ⟨md', hm, e⟩ := h
      cases e
      have vm := VMo.of_kd r0 ev r ko hm
      refine ⟨F, fr, fun _ _ h => h, r, ev, rp, ?_⟩
      cases md with
      | own => 
        unfold mdOf at hm
        simp only at hm
        split at hm <;> cases hm
      | bor m =>
        cases m with
        | none => exact vm
        | some m => exact ⟨root_lk vm.1, vm.2⟩
end
end DL
namespace DL
open PySem PySem.Spec L2
section
variable {X : Cx} {W : WX} {ε : Bool} {k : Kd} {ks : List Kd} {ms : List Nat} {tg iter e a b : Expr} {body : List Stmt} {fi : FE} {fa : FA} {gD : Md → D → Evn → Option Evn} {fb : FS} {pos p : Pos}
theorem PI.or {w1 w2 : TI} (h1 : PI X tg iter w1) (h2 : PI X tg iter w2) : PI X tg iter (fun σ H R => w1 σ H R ∨ w2 σ H R) :=
  ⟨fun pins s σ H R I h => h.elim (h1.run pins s σ H R I) (h2.run pins s σ H R I)⟩
def rng1D : List D → Option (List D)
  | [.int j] => if -(2 ^ 62) ≤ j ∧ j < 2 ^ 62 then some (rangeD 0 j.toNat) else none
  | _ => none
def rng2D : List D → Option (List D)
  | [.int i, .int j] => if -(2 ^ 62) ≤ i ∧ i < 2 ^ 62 ∧ -(2 ^ 62) ≤ j ∧ j < 2 ^ 62 then some (rangeD i (j - i).toNat) else none
  | _ => none
def fForR (rg : List D → Option (List D)) (fa : FA) (gD : Md → D → Evn → Option Evn) (fb : FS) : FS := fun env => (fa env).so fun ds e1 => match rg ds with
  | some xs => loopD (gChk .own gD) fb xs e1
  | none => .stuck
theorem ds_for1 (hp : PassesOwn (model X.prog X.w) X.A X.env X.xe) (hc : X.calm = true) (hgl : Gl X "range") (hmg : X.mg "range" = none) (ha : DA X W ε ks [a] fa) (hg : DG X ms tg gD) (hb : DSs X W ms body fb)
    (hs : starEach [a] X.env = [(false, eval a X.env)] := by rfl) (hf : ∀ x, foldedSetIterable (.Call (.Name "range" p) [a] [] pos) X.env x = pure x := by intro _; rfl) {pos2 : Pos} :
    DS X W ms (.For tg (.Call (.Name "range" p) [a] [] pos) body [] pos2) (fForR rng1D fa gD fb) := by
  obtain ⟨t1, p1, s1⟩ := ha.ex
  obtain ⟨t2, p2, s2⟩ := hg.ex
  obtain ⟨t3, p3, s3⟩ := hb.ex
  refine ⟨_, ps_for hp hc (pi_range1 hgl hmg p1 hs) p2 p3 hf, fun Z F H env σ fp D_ hm r h => s1 Z F H env σ fp _ r (SPost.bind h fun ds e1 h1 F1 H1 fp1 vs frs ev r1 rep ko => ?_)⟩
  cases q : rng1D ds with
  | none => rw [q] at h1; exact h1.elim
  | some xs =>
    rw [q] at h1
    unfold rng1D at q
    split at q
    · split at q
      · rename_i j hj
        cases q
        obtain ⟨v, ws, f, fs, rfl, rfl, h2, h3⟩ := rep.inv
        obtain ⟨rfl, rfl⟩ := h3.inv0
        obtain rfl : v = .int j := h2.1
        exact ⟨j, rfl, hj.1, hj.2, loop_sim io_range s2 s3 hm r1 (h1.seq ev)⟩
      · cases q
    · cases q
end
end DL
namespace DL
open PySem PySem.Spec L2
section
variable {K : PySem.W.Frag} {W : WX} {ε : Bool} {F H F1 H1 F2 H2 F' H' F0 H0 : Hp} {env env1 env2 env' env0 : Evn} {fp fp1 fp2 fp' fp0 : Fp} {Z : Zst} {σ σ1 : L2.St} {ms : List Nat} {D_ : Ends}
def Loose (Z : Zst) (F H : Hp) (env : Evn) (fp : Fp) (a : Addr) : Prop := H a ≠ none ∧ (∀ j, hold env j → a ∉ fp j) ∧ (¬ Z.B a ∧ F a = none) ∧ NF H a
theorem Loose.ev {a : Addr} (h : Loose Z F H env fp a) (e : Ev true F H env fp F' H' env' fp') : Loose Z F' H' env' fp' a ∧ H' a = H a := by
  obtain ⟨h1, h2, h3, h4⟩ := h
  have no : ¬ OwnA env fp a := fun ⟨j, hj, hm⟩ => h2 j (.inl hj) hm
  have nl : ¬ LkA env fp a := fun ⟨j, hj, hm⟩ => h2 j (.inr hj) hm
  refine ⟨⟨e.dom a h1, fun j hj hm => ?_, ⟨h3.1, ?_⟩, fun o u ho => h4 o u (e.nofz a o u ho)⟩, ?_⟩
  · rcases hj with hj | hj
    · rcases e.own a ⟨j, hj, hm⟩ with z | z
      · exact h1 z
      · exact no z
    · exact nl (e.lk a ⟨j, hj, hm⟩)
  · cases q : F' a with
    | none => rfl
    | some u =>
      rcases e.new a h3.2 (by rw [q]; exact fun z => by cases z) with z | z
      · exact absurd z h1
      · exact absurd z.2 no
  · cases q : H a with
    | none => exact absurd q h1
    | some o => exact e.keep a o q fun _ => no
theorem Loose.grow {a : Addr} (h : Loose Z F H env fp a) (g : Grow F H F' H') : Loose Z F' H' env fp a ∧ H' a = H a := h.ev (g.ev (ε := true))
def OwnP (K : PySem.W.Frag) (Z : Zst) (H1 : Hp) (env1 : Evn) (fp1 : Fp) (a : Addr) (u : HO) (xs : List D) (vs : List V) (i : Nat) (F H : Hp) (env : Evn) (fp : Fp) : Prop :=
  (F a = some u ∨ (H a = some u ∧ Loose Z F H env fp a)) ∧ ∃ fq, RepL K F H (xs.drop i) (vs.drop i) fq ∧ a ∉ fq ∧ ∀ b ∈ fq, (H1 b = none ∨ OwnA env1 fp1 b) ∧ Loose Z F H env fp b
theorem OwnP.has {a : Addr} {u : HO} {xs : List D} {vs : List V} {i : Nat} (h : OwnP K Z H1 env1 fp1 a u xs vs i F H env fp) (r : R K Z F H env σ fp) (n : isDic u = false) : H a = some u := by
  rcases h.1 with z | z
  · exact (r.sub a u z).ex n
  · exact z.1
end
section
variable {X : Cx} {W : WX} {ε : Bool} {ms : List Nat} {tg iter e : Expr} {body : List Stmt} {fi : FE} {gD : Md → D → Evn → Option Evn} {fb : FS} {pos : Pos}
def fForO (fi : FE) (gD : Md → D → Evn → Option Evn) (fb : FS) : FS := fun env => (fi env).so fun d e1 => match seqD d with
  | some xs => loopD (gChk .own gD) fb xs e1
  | none => .stuck
end
end DL
namespace DL
open PySem PySem.Spec L2
section
variable {K : PySem.W.Frag} {F F' H H' : Hp}
mutual
theorem Rep.monoZ (hF : ∀ a u, F a = some u → F' a = some u) : ∀ (d : D) (v : V) (fp : List Addr), (∀ a ∈ fp, ∀ u, notFz u = true → Has H a u → Has H' a u) → Rep K F H d v fp → Rep K F' H' d v fp
  | .non, v, fp, _, h => h
  | .bl _, v, fp, _, h => h
  | .int _, v, fp, _, h => h
  | .str _, v, fp, _, h => h
  | .ob _, v, fp, _, h => h
  | .ty _, v, fp, _, h => h
  | .scr _, v, fp, _, h => by
    obtain ⟨a, h1, h2, h3⟩ := h
    exact ⟨a, h1, h2, h3.imp (fun ⟨o, z, zz⟩ => ⟨o, hF _ _ z, zz⟩) id⟩
  | .tscr _ _, v, fp, hH, h => by
    obtain ⟨⟨a, h1, h3⟩, h4⟩ := h
    refine ⟨⟨a, h1, h3.imp (fun ⟨o, z, zz⟩ => ⟨o, hF _ _ z, zz⟩) id⟩, h4.mono (fun b u _ => hF b u) fun b hb u hu => hH b hb u ?_⟩
    cases u <;> first | rfl | exact absurd rfl (hu _ _)
  | .lam _ _ _, v, fp, hH, h => ⟨h.1, h.2.1, hF _ _ h.2.2⟩
  | .node true s xs, v, fp, hH, h => by
    simp only [Rep] at h ⊢
    obtain ⟨a, u, vs, fq, rfl, rfl, h1, h2, h3, h4, h5⟩ := h
    exact ⟨a, u, vs, fq, rfl, rfl, hH a (List.mem_cons_self ..) u h2.nfz h1, h2, h3, h4, RepL.monoZ hF xs vs fq (fun b hb => hH b (List.mem_cons_of_mem _ hb)) h5⟩
  | .node false s xs, v, fp, hH, h => by
    simp only [Rep] at h ⊢
    obtain ⟨a, u, vs, rfl, rfl, h1, h2, h3⟩ := h
    exact ⟨a, u, vs, rfl, rfl, hF a u h1, h2, RepL.monoZ hF xs vs [] (fun b hb => nomatch hb) h3⟩
theorem RepL.monoZ (hF : ∀ a u, F a = some u → F' a = some u) : ∀ (ds : List D) (vs : List V) (fp : List Addr), (∀ a ∈ fp, ∀ u, notFz u = true → Has H a u → Has H' a u) → RepL K F H ds vs fp → RepL K F' H' ds vs fp
  | [], vs, fp, _, h => h
  | d :: ds, vs, fp, hH, h => by
    simp only [RepL] at h ⊢
    obtain ⟨v, ws, f1, f2, rfl, rfl, h1, h2, h3⟩ := h
    exact ⟨v, ws, f1, f2, rfl, rfl, h1, Rep.monoZ hF d v f1 (fun b hb => hH b (List.mem_append_left _ hb)) h2, RepL.monoZ hF ds ws f2 (fun b hb => hH b (List.mem_append_right _ hb)) h3⟩
end
end
theorem isDic_nf {u : HO} (h : isDic u = true) : notFz u = true := by cases u <;> simp_all [isDic, notFz]
section
variable {K : PySem.W.Frag} {W : WX} {ε : Bool} {F H F1 H1 F2 H2 F' H' F0 H0 : Hp} {env env1 env2 env' env0 : Evn} {fp fp1 fp2 fp' fp0 : Fp} {Z : Zst} {σ σ1 : L2.St} {ms : List Nat} {D_ : Ends} {d : Addr} {od : Obj} {u : HO}
theorem R.frzd (r : R K Z F H env σ fp) (hd : H d = some u) (hu : isDic u = true) (no : ¬ OwnA env fp d) : R K Z F (upd H d (.frz od u)) env σ fp := by
  have hs : ∀ b w, Has H b w → Has (upd H d (.frz od u)) b w := fun b w hw => by
    by_cases e : b = d
    · subst e
      rcases hw with hw | ⟨⟨o, hw⟩, hz⟩
      · rw [hd] at hw
        cases hw
        exact .inr ⟨⟨od, upd_same⟩, hu⟩
      · rw [hd] at hw
        cases hw
        cases hu
    · exact hw.same fun o ho => by rw [upd_ne e]; exact ho
  have mn : ∀ {x v f}, Rep K F H x v f → Rep K F (upd H d (.frz od u)) x v f := fun {x v f} h => Rep.mono (fun _ _ h => h) x v f (fun b _ w hw => hs b w hw) h
  refine ⟨fun a w ha => hs a w (r.sub a w ha), fun i => (r.slot i).map fun x v h => mn h, r.sep, r.sepB, r.hF, fun a ha => ?_, r.pin, fun p hp => mn (r.gh p hp), r.len, fun i hi a ha o w hw => ?_⟩
  · by_cases e : a = d
    · rw [e, upd_same]; exact fun z => by cases z
    · rw [upd_ne e]; exact r.domB a ha
  · by_cases e : a = d
    · exact no ⟨i, hi, by rw [← e]; exact ha⟩
    · rw [upd_ne e] at hw
      exact r.nf i hi a ha o w hw
theorem unfrz (hd : H d = some u) (hu : isDic u = true) (no : ¬ OwnA env fp d) (hF : F d = none ∨ F d = some u) (e : Ev ε F (upd H d (.frz od u)) env fp F' H' env' fp') (r : R K Z F' H' env' σ fp') :
    Ev ε F H env fp F' (upd H' d u) env' fp' ∧ R K Z F' (upd H' d u) env' σ fp' ∧ H' d = some (.frz od u) := by
  have hH' : H' d = some (.frz od u) := e.keep d _ upd_same fun _ => no
  have hF' : F' d = none ∨ F' d = some u := by
    rcases hF with z | z
    · refine .inl ?_
      cases q : F' d with
      | none => rfl
      | some w =>
        rcases e.new d z (by rw [q]; exact fun z => by cases z) with y | y
        · rw [upd_same] at y; cases y
        · exact absurd y.2 no
    · exact .inr (e.sub d u z)
  have hs : ∀ b w, notFz w = true → Has H' b w → Has (upd H' d u) b w := fun b w hz hw => by
    by_cases e : b = d
    · subst e
      rcases hw with hw | ⟨⟨o, hw⟩, _⟩
      · rw [hH'] at hw
        cases hw
        cases hz
      · rw [hH'] at hw
        cases hw
        exact .inl upd_same
    · exact hw.same fun o ho => by rw [upd_ne e]; exact ho
  have mn : ∀ {x v f}, Rep K F' H' x v f → Rep K F' (upd H' d u) x v f := fun {x v f} h => Rep.monoZ (fun _ _ h => h) x v f (fun b _ w hz hw => hs b w hz hw) h
  have nz : notFz u = true := isDic_nf hu
  refine ⟨⟨fun a o ho n => ?_, e.sub, fun a h1 h2 => ?_, fun a ha => ?_, e.lks, fun a o w hw => ?_, fun a ha => ?_, e.pure⟩, ⟨fun a w ha => ?_, fun i => (r.slot i).map fun x v h => mn h, r.sep, r.sepB, r.hF, fun a ha => ?_, r.pin, fun p hp => mn (r.gh p hp), r.len, fun i hi a ha o w hw => ?_⟩, hH'⟩
  · by_cases z : a = d
    · rw [z, upd_same]; rw [z, hd] at ho; exact ho
    · rw [upd_ne z]; exact e.keep a o (by rw [upd_ne z]; exact ho) n
  · refine (e.new a h1 h2).imp (fun z => ?_) id
    by_cases y : a = d
    · rw [y, upd_same] at z; cases z
    · rw [upd_ne y] at z; exact z
  · refine (e.own a ha).imp (fun z => ?_) id
    by_cases y : a = d
    · rw [y, upd_same] at z; cases z
    · rw [upd_ne y] at z; exact z
  · by_cases y : a = d
    · rw [y, upd_same] at hw
      cases hw
      cases nz
    · rw [upd_ne y] at hw
      have z := e.nofz a o w hw
      rw [upd_ne y] at z
      exact z
  · by_cases y : a = d
    · rw [y, upd_same]; exact fun z => by cases z
    · rw [upd_ne y]; exact e.dom a (by rw [upd_ne y]; exact ha)
  · by_cases y : a = d
    · subst y
      rcases hF' with z | z
      · rw [z] at ha; cases ha
      · rw [z] at ha; cases ha; exact .inl upd_same
    · exact (r.sub a w ha).same fun o ho => by rw [upd_ne y]; exact ho
  · by_cases y : a = d
    · rw [y, upd_same]; exact fun z => by cases z
    · rw [upd_ne y]; exact r.domB a ha
  · by_cases y : a = d
    · rw [y, upd_same] at hw
      cases hw
      cases nz
    · rw [upd_ne y] at hw
      exact r.nf i hi a ha o w hw
structure LkI where
  d : Addr
  od : Obj
  u : HO
def lkH (H : Hp) : Option LkI → Hp
  | none => H
  | some l => upd H l.d (.frz l.od l.u)
def hangA (Z : Zst) (fp : Fp) (a : Addr) : Md → Prop
  | .own => False
  | .bor none => Z.B a
  | .bor (some m) => a ∈ fp m
def LkOk (X : Cx) (md : Md) (Z : Zst) (F H : Hp) (fp : Fp) (isd : Bool) : Option LkI → Prop
  | none => True
  | some l => isd = true ∧ H l.d = some l.u ∧ isDic l.u = true ∧ (∀ o' u', X.H_0 l.d = some (.frz o' u') → False) ∧ (F l.d = some l.u ∨ hangA Z fp l.d md)
def hang (md : Md) (fp1 : Fp) (env2 : Evn) (fp2 : Fp) : Prop := match md with
  | .bor (some m) => isLk env2 m ∧ fp2 m = fp1 m
  | _ => True
theorem LkOk.no {X : Cx} {md : Md} {isd : Bool} {l : LkI} {Z2 : Zst} (h : LkOk X md Z F H fp isd (some l)) (hB : Z2.B = Z.B) (hg : hang md fp env2 fp2) (r : R K Z2 F H env2 σ fp2) : ¬ OwnA env2 fp2 l.d ∧ (F l.d = none ∨ F l.d = some l.u) := by
  obtain ⟨_, h1, h2, _, h3⟩ := h
  have key : ∀ w, F l.d = some w → w = l.u := fun w hw => by
    rcases r.sub l.d w hw with z | ⟨⟨o, z⟩, _⟩
    · rw [h1] at z; cases z; rfl
    · rw [h1] at z
      have z' := Option.some.inj z
      rw [z'] at h2
      cases h2
  have hF : F l.d = none ∨ F l.d = some l.u := by
    cases q : F l.d with
    | none => exact .inl rfl
    | some w => exact .inr (by rw [key w q])
  refine ⟨fun ho => ?_, hF⟩
  rcases h3 with z | z
  · rw [r.own_F ho] at z
    cases z
  · cases md with
    | own => exact z
    | bor m =>
      cases m with
      | none => exact r.own_B ho (by rw [hB]; exact z)
      | some m => exact r.own_lk ho ⟨m, hg.1, by rw [hg.2]; exact z⟩
def ISim (X : Cx) (W : WX) (ε : Bool) (wi : TI) (fI : Evn → Rs (Md × List D × Bool)) : Prop := ∀ Z F H env σ fp (Rq : It → Hp → Prop), R X.K Z F H env σ fp →
  Post X.K W ε Z F H env σ fp (fun y e1 => ∀ F' H' fp' J lk, Ev ε F H env fp F' H' e1 fp' → R X.K Z F' H' e1 σ fp' → rootHold e1 y.1 → LkOk X y.1 Z F' H' fp' y.2.2 lk →
    (∀ Z2 env2 fp2 σ2, Z2.B = Z.B → hang y.1 fp' env2 fp2 → R X.K Z2 F' (lkH H' lk) env2 σ2 fp2 → IOk X.K Z2 F' (lkH H' lk) env2 fp2 J y.2.1 y.1) → Rq J (lkH H' lk)) (fI env) → wi σ H Rq
structure DI (X : Cx) (W : WX) (ε : Bool) (tg iter : Expr) (fI : Evn → Rs (Md × List D × Bool)) : Prop where
  ex : ∃ wi, PI X tg iter wi ∧ ISim X W ε wi fI
end
def Un1 (X : Cx) (P : Hp → Prop) (H : Hp) : Prop := P H ∨ ∃ d od u, H d = some (.frz od u) ∧ (∀ o' u', X.H_0 d = some (.frz o' u') → False) ∧ P (upd H d u)
def tUn (X : Cx) (t : TS) : TS := fun D σ H => t ⟨fun σ' H' => Un1 X (D.nx σ') H', fun v H' => Un1 X (D.rt v) H', fun σ' H' => Un1 X (D.bk σ') H', fun σ' H' => Un1 X (D.ct σ') H'⟩ σ H
def tUnE (X : Cx) (t : TE) : TE := fun σ H Q => t σ H fun v H' => Un1 X (Q v) H'
section
variable {X : Cx}
theorem Un1.out {P : Hp → Prop} {pins : List (Addr × Obj)} {σ : L2.St} {H : Hp} {s : Shared} (I : Inv X pins σ H s) (h : Un1 X P H) : ∃ H', Inv X pins σ H' s ∧ P H' := by
  rcases h with h | ⟨d, od, u, h1, h2, h3⟩
  · exact ⟨H, I, h⟩
  · exact ⟨_, I.unlock h1 (fun o u z => h2 o u z), h3⟩
theorem ps_un {st : Stmt} {t : TS} (h : PS X st t) : PS X st (tUn X t) := by
  refine ⟨fun pins s σ H D I hw => thn (h.run pins s σ H _ I hw) fun f s1 q => ?_⟩
  cases f with
  | next => obtain ⟨σ', H', I2, q⟩ := q; obtain ⟨H2, I3, q⟩ := Un1.out I2 q; exact ⟨σ', H2, I3, q⟩
  | brk => obtain ⟨σ', H', I2, q⟩ := q; obtain ⟨H2, I3, q⟩ := Un1.out I2 q; exact ⟨σ', H2, I3, q⟩
  | cont => obtain ⟨σ', H', I2, q⟩ := q; obtain ⟨H2, I3, q⟩ := Un1.out I2 q; exact ⟨σ', H2, I3, q⟩
  | ret v => obtain ⟨x, σ', H', I2, r, q⟩ := q; obtain ⟨H2, I3, q⟩ := Un1.out I2 q; exact ⟨x, σ', H2, I3, r, q⟩
theorem pe_un {e : Expr} {t : TE} (h : PE X e t) : PE X e (tUnE X t) := by
  refine ⟨fun pins s σ H Q I hw => thn (h.run pins s σ H _ I hw) fun v s1 ⟨x, H1, I2, r, q⟩ => ?_⟩
  obtain ⟨H2, I3, q⟩ := Un1.out I2 q
  exact ⟨x, H2, I3, r, q⟩
end
section
variable {X : Cx} {W : WX} {ε : Bool} {F H F' H' : Hp} {env env2 : Evn} {fp fp2 : Fp} {Z : Zst} {σ : L2.St} {D_ : Ends}
def So.nex (isd : Bool) : So → So
  | .exc c x e => if isd = true then .stuck else .exc c x e
  | o => o
theorem SPost.lkH {md : Md} {isd : Bool} {lk : Option LkI} {o : So} (hl : LkOk X md Z F H fp isd lk) (hg : hang md fp env2 fp2) (r2 : R X.K Z F H env2 σ fp2) (h : SPost X.K W Z F H env2 fp2 D_ (o.nex isd)) :
    SPost X.K W Z F (lkH H lk) env2 fp2 ⟨fun σ' H' => Un1 X (D_.nx σ') H', fun v H' => Un1 X (D_.rt v) H', fun σ' H' => Un1 X (D_.bk σ') H', fun σ' H' => Un1 X (D_.ct σ') H'⟩ o := by
  cases lk with
  | none =>
    cases o with
    | nxt e => exact fun F' H' fp' σ' ev r => .inl (h F' H' fp' σ' ev r)
    | brk e => exact fun F' H' fp' σ' ev r => .inl (h F' H' fp' σ' ev r)
    | cnt e => exact fun F' H' fp' σ' ev r => .inl (h F' H' fp' σ' ev r)
    | ret d e => exact fun F' H' fp' σ' v fr ev r rp ko => .inl (h F' H' fp' σ' v fr ev r rp ko)
    | exc c x e =>
      unfold So.nex at h
      split at h
      · rename_i c' x' e' q
        cases q
        split at h
        · exact h.elim
        · exact h
      · rename_i q
        exact absurd rfl (q c x e)
    | stuck => exact h
  | some l =>
    obtain ⟨no, hF⟩ := hl.no rfl hg r2
    obtain ⟨hi, h1, h2, h3, h4⟩ := hl
    cases o with
    | nxt e => exact fun F' H' fp' σ' ev r => let z := unfrz h1 h2 no hF ev r; .inr ⟨l.d, l.od, l.u, z.2.2, h3, h F' _ fp' σ' z.1 z.2.1⟩
    | brk e => exact fun F' H' fp' σ' ev r => let z := unfrz h1 h2 no hF ev r; .inr ⟨l.d, l.od, l.u, z.2.2, h3, h F' _ fp' σ' z.1 z.2.1⟩
    | cnt e => exact fun F' H' fp' σ' ev r => let z := unfrz h1 h2 no hF ev r; .inr ⟨l.d, l.od, l.u, z.2.2, h3, h F' _ fp' σ' z.1 z.2.1⟩
    | ret d e =>
      refine fun F' H' fp' σ' v fr ev r rp ko => ?_
      obtain ⟨z1, z2, z3⟩ := unfrz h1 h2 no hF ev r
      refine .inr ⟨l.d, l.od, l.u, z3, h3, h F' _ fp' σ' v fr z1 z2 (Rep.monoZ (fun _ _ h => h) _ v fr (fun b hb w hz hw => ?_) rp) fun a ha => ⟨((ko a ha).1).imp (fun z => ?_) id, (ko a ha).2⟩⟩
      · by_cases y : b = l.d
        · subst y
          rcases hw with hw | ⟨⟨o, hw⟩, _⟩
          · rw [z3] at hw; cases hw; cases hz
          · rw [z3] at hw; cases hw; exact .inl upd_same
        · exact hw.same fun o ho => by rw [upd_ne y]; exact ho
      · by_cases y : a = l.d
        · rw [y] at z
          have z' : upd H l.d (.frz l.od l.u) l.d = none := z
          rw [upd_same] at z'
          cases z'
        · have z' : upd H l.d (.frz l.od l.u) a = none := z
          rw [upd_ne y] at z'
          exact z'
    | exc c x e =>
      have h' : SPost X.K W Z F H env2 fp2 D_ (if isd = true then So.stuck else So.exc c x e) := h
      rw [if_pos hi] at h'
      exact h'.elim
    | stuck => exact h
end
section
variable {X : Cx} {W : WX} {ε : Bool} {k : Kd} {ks : List Kd} {ms : List Nat} {tg iter e a b : Expr} {body : List Stmt} {fi : FE} {fa : FA} {fI : Evn → Rs (Md × List D × Bool)} {gD : Md → D → Evn → Option Evn} {fb : FS} {pos p : Pos}
def fForI (fI : Evn → Rs (Md × List D × Bool)) (gD : Md → D → Evn → Option Evn) (fb : FS) : FS := fun env => (fI env).so fun y e1 => ((loopD (gChk y.1 gD) fb y.2.1 (lockR y.1 e1)).nex y.2.2).unl (unlR y.1 e1)
theorem lockR_hang {env : Evn} {fp : Fp} {md : Md} (h : rootHold env md) : hang md fp (lockR md env) fp := by
  cases md with
  | own => trivial
  | bor m =>
    cases m with
    | none => trivial
    | some m => exact ⟨root_lk h, rfl⟩
theorem R.lkH {Z : Zst} {F H : Hp} {env2 : Evn} {σ : L2.St} {fp fp2 : Fp} {md : Md} {isd : Bool} {lk : Option LkI} {Z2 : Zst} (hl : LkOk X md Z F H fp isd lk) (hB : Z2.B = Z.B) (hg : hang md fp env2 fp2) (r2 : R X.K Z2 F H env2 σ fp2) : R X.K Z2 F (lkH H lk) env2 σ fp2 := by
  cases lk with
  | none => exact r2
  | some l =>
    obtain ⟨no, hF⟩ := hl.no hB hg r2
    obtain ⟨hi, h1, h2, h3, h4⟩ := hl
    exact r2.frzd h1 h2 no
theorem ds_forI (hp : PassesOwn (model X.prog X.w) X.A X.env X.xe) (hc : X.calm = true) (hi : DI X W ε tg iter fI) (hg : DG X ms tg gD) (hb : DSs X W ms body fb) (hs : ∀ x, foldedSetIterable iter X.env x = pure x := by intro _; rfl) :
    DS X W ms (.For tg iter body [] pos) (fForI fI gD fb) := by
  obtain ⟨wi, p1, s1⟩ := hi.ex
  obtain ⟨t2, p2, s2⟩ := hg.ex
  obtain ⟨t3, p3, s3⟩ := hb.ex
  refine ⟨_, ps_un (ps_for hp hc p1 p2 p3 hs), fun Z F H env σ fp D_ hm r h => s1 Z F H env σ fp _ r (SPost.bind h fun y e1 h1 F1 H1 fp1 J lk ev r1 hh hl io => ?_)⟩
  have h2 := SPost.lock r1 (h1.seq ev)
  have rL := lockR_R (md := y.1) r1
  have hg' := lockR_hang (fp := fp1) hh
  have h3 := h2.lkH hl hg' rL
  have rK := R.lkH hl rfl hg' rL
  exact loop_sim (io Z _ fp1 σ rfl hg' rK) s2 s3 hm rK h3
end
end DL
namespace DL
open PySem PySem.Spec L2
theorem isDic_mut {u : HO} (h : isDic u = true) : Mut (some u) := by cases u <;> first | exact True.intro | cases h
def iAny (X : Cx) (t1 : TE) : TI := fun σ H R => t1 σ H fun x H1 => (∃ a, x = .ref a ∧ (((∃ xs, SqL X.K H1 a xs) ∧ R (Itl X.K a) H1) ∨ ((∃ xs, SqT X.K H1 a xs) ∧ R (Itt X.K a) H1) ∨
    ∃ u, isDic u = true ∧ ((∃ od, H1 a = some (.frz od u) ∧ (∀ kvs, u = .dK kvs → R (Itk a od kvs) H1) ∧ (∀ kvs, u = .dT kvs → R (Itkt a od kvs) H1)) ∨
      (H1 a = some u ∧ ∀ od, (∀ o' u', X.H_0 a = some (.frz o' u') → False) → (∀ kvs, u = .dK kvs → R (Itk a od kvs) (upd H1 a (.frz od u))) ∧ (∀ kvs, u = .dT kvs → R (Itkt a od kvs) (upd H1 a (.frz od u))))))) ∨ ∃ z, x = .str z ∧ R (Its z) H1
section
variable {X : Cx} {tg iter : Expr}
theorem it_keys {pins : List (Addr × Obj)} {σ : L2.St} {H : Hp} {s : Shared} {R : It → Hp → Prop} {a : Addr} {od : Obj} {u : HO} (I : Inv X pins σ H s) (hu : isDic u = true) (h : H a = some (.frz od u)) (hK : ∀ kvs, u = .dK kvs → R (Itk a od kvs) H) (hT : ∀ kvs, u = .dT kvs → R (Itkt a od kvs) H) :
    wpAny (model X.prog X.w) X.A (pyIter (.ref a)) (PIE X pins σ tg R) X.xe s := by
  cases u with
  | dK kvs =>
    obtain ⟨hs, hgd, hx, es, ep, vs, hdt, hsz, kv, hm⟩ := I.frzK h
    refine iter_keys hs hgd hx hdt (pi_one (tk := s.toks) I _ (turn_keys _ hdt) ⟨_, Heap.get?_push_size _ rfl, rfl, ?_⟩ (hK kvs rfl))
    rw [hsz] <;> rfl
  | dT kvs =>
    obtain ⟨hs, hgd, hx, es, ep, hdt, hsz, ent⟩ := I.frzT h
    refine iter_keys hs hgd hx hdt (pi_one (tk := s.toks) I _ (turn_keysT _ hdt) ⟨_, Heap.get?_push_size _ rfl, rfl, ?_⟩ (hT kvs rfl))
    rw [hsz] <;> rfl
  | _ => cases hu
theorem pi_any {t1 : TE} (p1 : PE X iter t1) : PI X tg iter (iAny X t1) := by
  refine ⟨fun pins s σ H R I h => ?_⟩
  refine thn (p1.run pins s σ H _ I h) fun v s1 ⟨x, H1, I1, r1, q⟩ => ?_
  rcases q with ⟨a, e, q⟩ | ⟨z, e, q⟩
  · subst e
    cases r1
    rcases q with ⟨⟨xs, hq⟩, q⟩ | ⟨⟨xs, hq⟩, q⟩ | ⟨u, hu, q⟩
    · obtain ⟨its, rv, p, hz⟩ := I1.list hq
      refine wpAny_pyIter_list p.isList ?_
      refine ⟨s1.heap.objs.size, [s1.heap.objs.size], _, _, H1, rfl, I1.kept (t' := s1.toks) fun b o e => Heap.get?_push_of_some _ e, turn_list a _, ⟨_, Heap.get?_push_size _ rfl, rfl, rfl⟩, fun b hb => ?_, q⟩
      have e : b = s1.heap.objs.size := by simpa using hb
      subst e
      exact I1.fpOk (Nat.le_refl _) (I1.hok.fresh (Nat.le_refl _))
    · obtain ⟨its, rv, p, hz⟩ := I1.tuple hq
      refine wpAny_pyIter_tuple (show s1.heap.IsTuple a its.toArray from p) ?_
      refine ⟨s1.heap.objs.size, [s1.heap.objs.size], _, _, H1, rfl, I1.kept (t' := s1.toks) fun b o e => Heap.get?_push_of_some _ e, turn_tuple a _, ⟨_, Heap.get?_push_size _ rfl, rfl, rfl⟩, fun b hb => ?_, q⟩
      have e : b = s1.heap.objs.size := by simpa using hb
      subst e
      exact I1.fpOk (Nat.le_refl _) (I1.hok.fresh (Nat.le_refl _))
    · rcases q with ⟨od, hd, hK, hT⟩ | ⟨hd, q⟩
      · exact it_keys I1 hu hd hK hT
      · obtain ⟨od, I2⟩ := I1.lock hd (isDic_mut hu)
        obtain ⟨hK, hT⟩ := q od (fun o' u' z => I1.nofrz hd (isDic_mut hu) o' u' z)
        exact it_keys I2 hu upd_same hK hT
  · subst e
    obtain ⟨t, rfl⟩ := r1
    cases ha : z.cps.all (· < 128)
    · exact wpAny_pyIter_wide ha (pi_one (tk := s1.toks) I1 _ (turn_str _ z t "str_iterator" (.inr rfl)) ⟨_, Heap.get?_push_size _ rfl, rfl, rfl⟩ q)
    · exact wpAny_pyIter_ascii ha (pi_one (tk := s1.toks) I1 _ (turn_str _ z t "str_ascii_iterator" (.inl rfl)) ⟨_, Heap.get?_push_size _ rfl, rfl, rfl⟩ q)
end
def keyV : Key → D
  | .inl i => .int i
  | .inr x => .str x
def itemsD : D → Option (List D × Bool)
  | .node _ .lst xs => some (xs, false)
  | .node _ .tup xs => some (xs, false)
  | .node _ (.dic ks) _ => some (ks.map keyV, true)
  | .str z => some (z.cps.toList.map fun c => .str ⟨#[c]⟩, false)
  | _ => none
def iAnyD (k : Kd) (fi : FE) : Evn → Rs (Md × List D × Bool) := fun env => (fi env).bind fun d e1 => match walkD k d e1 with
  | some (md, d') => (match itemsD d' with
    | some (xs, b) => .ok (md, xs, b) e1
    | none => .stuck)
  | none => .stuck
section
variable {X : Cx} {W : WX} {ε : Bool} {k : Kd} {tg iter : Expr} {fi : FE} {F H F1 H1 : Hp} {env env1 env2 : Evn} {fp fp1 fp2 : Fp} {Z Z2 : Zst} {σ σ2 : L2.St} {md : Md} {fr : List Addr}
theorem walk_hold {d d' : D} {v : V} {F0 H0 : Hp} {env0 : Evn} {fp0 : Fp} (r0 : R X.K Z F0 H0 env0 σ fp0) (ev : Ev ε F0 H0 env0 fp0 F H env fp) (r : R X.K Z F H env σ fp) (rp : Rep X.K F H d v fr) (ko : KOk k H0 env0 fp0 F env fp fr) (h : walkD k d env = some (md, d')) : rootHold env md := by
  cases k with
  | own => cases h; trivial
  | frz => cases h; trivial
  | bor j =>
    unfold walkD at h
    simp only at h
    split at h
    · cases h; trivial
    · rw [Option.map_eq_some_iff] at h
      obtain ⟨md', hm, e⟩ := h
      cases e
      have vm := VMo.of_kd r0 ev r ko hm
      cases md with
      | own => trivial
      | bor m =>
        cases m with
        | none => trivial
        | some m => exact vm.1
theorem Wlk.of {env : Evn} (wk : Wlk Z (lockR md env) fp fr md) (hB : Z2.B = Z.B) (hg : hang md fp env2 fp2) : Wlk Z2 env2 fp2 fr md := by
  cases md with
  | own => exact wk
  | bor m =>
    cases m with
    | none => exact fun a ha => by rw [hB]; exact wk a ha
    | some m => exact ⟨hg.1, fun a ha => by rw [hg.2]; exact wk.2 a ha⟩
theorem io_dic {o : Bool} {ks : List Key} {xs : List D} {a : Addr} {od : Obj} {vs : List V} (hl : ks.length = vs.length) (ha : H a = some (.frz od (.dK (ks.zip vs)))) (no : ¬ OwnA env fp a) : IOk X.K Z F H env fp (Itk a od (ks.zip vs)) (ks.map keyV) md where
  go := fun F' H' env' fp' σ' i d ev r hb hi => by
    rw [List.getElem?_map, Option.map_eq_some_iff] at hi
    obtain ⟨ky, e1, rfl⟩ := hi
    have hi : i < ks.length := (List.getElem?_eq_some_iff.mp e1).1
    have ha' := ev.keep a _ ha fun _ => no
    refine ⟨⟨ha', by rw [List.length_zip, ← hl, Nat.min_self]; exact hi⟩, fun x H'' ⟨eH, ky', v, e2, ex⟩ => ?_⟩
    subst eH ex
    rw [List.getElem?_zip_eq_some] at e2
    rw [e1] at e2
    cases e2.1
    have vm : ∀ H0 env0 fp0, VMo H0 env0 fp0 Z F' H'' env' fp' [] md := fun H0 env0 fp0 => by
      cases md with
      | own => exact fun a ha => by cases ha
      | bor m =>
        cases m with
        | none => exact fun a ha => by cases ha
        | some m => exact ⟨.inr (lkD_isLk hb), fun a ha => by cases ha⟩
    refine ⟨F', [], Grow.refl r.sub, ?_, vm⟩
    cases ky' with
    | inl i => exact .plain rfl
    | inr x => exact .plain rfl
  stop := fun F' H' env' fp' σ' i ev r hi => ⟨ev.keep a _ ha fun _ => no, by rw [List.length_zip, ← hl, Nat.min_self]; simpa using hi⟩
theorem io_str {z : Str} : IOk X.K Z F H env fp (Its z) (z.cps.toList.map fun c => .str ⟨#[c]⟩) .own where
  go := fun F' H' env' fp' σ' i d ev r hb hi => by
    rw [List.getElem?_map, Option.map_eq_some_iff] at hi
    obtain ⟨c, e1, rfl⟩ := hi
    have hi : i < z.cps.size := by
      have := (List.getElem?_eq_some_iff.mp e1).1
      simpa using this
    refine ⟨hi, fun x H'' ⟨eH, c', e2, ex⟩ => ?_⟩
    subst eH ex
    rw [Array.getElem?_toList] at e1
    rw [e1] at e2
    cases e2
    exact ⟨F', [], Grow.refl r.sub, .plain rfl, fun _ _ _ a ha => by cases ha⟩
  stop := fun F' H' env' fp' σ' i ev r hi => by
    show z.cps.size ≤ i
    simpa using hi
theorem di_any (hi : DE X W ε k iter fi) : DI X W ε tg iter (iAnyD k fi) := by
  obtain ⟨t1, p1, s1⟩ := hi.ex
  refine ⟨_, pi_any p1, fun Z F H env σ fp Rq r h => s1 Z F H env σ fp _ r (Post.bind h id id fun d e1 h1 F1 H1 fp1 v fr ev r1 rp ko => ?_)⟩
  cases qw : walkD k d e1 with
  | none => rw [qw] at h1; exact h1.elim
  | some y =>
    obtain ⟨md, d'⟩ := y
    rw [qw] at h1
    simp only at h1
    cases qs : itemsD d' with
    | none => rw [qs] at h1; exact h1.elim
    | some w =>
      obtain ⟨xs, b⟩ := w
      rw [qs] at h1
      have rh := walk_hold r ev r1 rp ko qw
      obtain ⟨F2, fr2, hF, r2, ev2, rp2, wk⟩ := walk_ok r ev r1 rp ko qw
      unfold itemsD at qs
      split at qs
      · cases qs
        obtain ⟨a, vs, fq, rfl, ha, rl, sb⟩ := rp2.lst r2.sub
        exact .inl ⟨a, rfl, .inl ⟨⟨vs, .inl (.inl ha)⟩, h1 F2 H1 fp1 (Itl X.K a) none ev2 r2 rh trivial fun Z2 env2 fp2 σ2 hB hg r3 => io_list (wk.of hB hg) r3 rp2⟩⟩
      · cases qs
        obtain ⟨a, vs, fq, rfl, ha, rl, sb⟩ := rp2.tup r2.sub
        exact .inl ⟨a, rfl, .inr (.inl ⟨⟨vs, .inl (.inl ha)⟩, h1 F2 H1 fp1 (Itt X.K a) none ev2 r2 rh trivial fun Z2 env2 fp2 σ2 hB hg r3 => io_tup (wk.of hB hg) r3 rp2⟩)⟩
      · rename_i o ks zs
        cases qs
        obtain ⟨a, u, vs, fq, rfl, hH, hn, rl, sb⟩ := rp2.node r2.sub
        obtain ⟨⟨hl, nd⟩, rfl⟩ := hn
        -- where the dict itself hangs
        have hA : F2 a = some (.dK (ks.zip vs)) ∨ hangA Z fp1 a md := by
          cases o with
          | false =>
            simp only [Rep] at rp2
            obtain ⟨a', u', vs', ea, _, hF', hn', _⟩ := rp2
            cases ea
            have x := r2.sub a _ hF'
            obtain ⟨⟨hl', _⟩, rfl⟩ := hn'
            refine .inl ?_
            rw [hF']
            rcases hH with q1 | ⟨⟨o1, q1⟩, _⟩
            · rcases x with q2 | ⟨⟨o2, q2⟩, _⟩
              · exact q2.symm.trans q1
              · have z := q2.symm.trans q1
                cases z
            · rcases x with q2 | ⟨⟨o2, q2⟩, _⟩
              · have z := q2.symm.trans q1
                cases z
              · have z := Option.some.inj (q2.symm.trans q1)
                injection z with _ z
                rw [z]
          | true =>
            have ha : a ∈ fr2 := by
              simp only [Rep] at rp2
              obtain ⟨a', u', vs', fq', ea, efr, _⟩ := rp2
              cases ea
              rw [efr]
              exact List.mem_cons_self ..
            refine .inr ?_
            cases md with
            | own =>
              have z : fr2 = [] := wk
              rw [z] at ha
              cases ha
            | bor m =>
              cases m with
              | none => exact wk a ha
              | some m => exact wk.2 a ha
        refine .inl ⟨a, rfl, .inr (.inr ⟨.dK (ks.zip vs), rfl, ?_⟩)⟩
        rcases hH with hH | ⟨⟨od, hH⟩, _⟩
        · refine .inr ⟨hH, fun od hno => ⟨fun kvs ek => ?_, fun kvs ek => by cases ek⟩⟩
          cases ek
          have lko : LkOk X md Z F2 H1 fp1 true (some ⟨a, od, .dK (ks.zip vs)⟩) := ⟨rfl, hH, rfl, hno, hA⟩
          exact h1 F2 H1 fp1 (Itk a od (ks.zip vs)) (some ⟨a, od, .dK (ks.zip vs)⟩) ev2 r2 rh lko fun Z2 env2 fp2 σ2 hB hg r3 => io_dic (o := o) (xs := zs) hl upd_same fun ho => r3.own_nf ho od _ upd_same
        · refine .inl ⟨od, hH, fun kvs ek => ?_, fun kvs ek => by cases ek⟩
          cases ek
          exact h1 F2 H1 fp1 (Itk a od (ks.zip vs)) none ev2 r2 rh trivial fun Z2 env2 fp2 σ2 hB hg r3 => io_dic (o := o) (xs := zs) hl hH fun ho => r3.own_nf ho od _ hH
      · cases qs
        rename_i z
        obtain rfl : v = .str z := rp2.1
        have wm : md = .own := by
          cases k with
          | own => exact (congrArg Prod.fst (Option.some.inj qw)).symm
          | frz => exact (congrArg Prod.fst (Option.some.inj qw)).symm
          | bor j =>
            unfold walkD at qw
            simp only at qw
            split at qw
            · exact (congrArg Prod.fst (Option.some.inj qw)).symm
            · rename_i hz
              rw [Option.map_eq_some_iff] at qw
              obtain ⟨md', hm, e⟩ := qw
              cases e
              exact absurd rfl hz
        subst wm
        exact .inr ⟨z, rfl, h1 F2 H1 fp1 (Its z) none ev2 r2 rh trivial fun Z2 env2 fp2 σ2 hB hg r3 => io_str⟩
      · cases qs
end
end DL
namespace DL
open PySem PySem.Spec L2
def tOfE (K : PySem.W.Frag) (W : WX) (ε : Bool) (k : Kd) (f : FE) : TE := fun σ H Q => ∃ Z F env fp, R K Z F H env σ fp ∧
  Post K W ε Z F H env σ fp (fun d env' => ∀ F' H' fp' v fr, Ev ε F H env fp F' H' env' fp' → R K Z F' H' env' σ fp' → Rep K F' H' d v fr → KOk k H env fp F' env' fp' fr → Q v H') (f env)
def tOfT (K : PySem.W.Frag) (W : WX) (ε : Bool) (f : FT) : TT := fun σ H Q => ∃ Z F env fp, R K Z F H env σ fp ∧
  Post K W ε Z F H env σ fp (fun b env' => ∀ F' H' fp', Ev ε F H env fp F' H' env' fp' → R K Z F' H' env' σ fp' → Q b H') (f env)
def gOfP (K : PySem.W.Frag) (ms : List Nat) (g : Md → D → Evn → Option Evn) : TG := fun v σ H Q => ∃ Z F0 H0 env0 fp0 F env fp d fr md, (∀ p ∈ Z.pins, p.1 ∈ ms) ∧ Ev true F0 H0 env0 fp0 F H env fp ∧ R K Z F H env σ fp ∧
  Rep K F H d v fr ∧ VMo H0 env0 fp0 Z F H env fp fr md ∧ ∃ env', g md d env = some env' ∧ ∀ σ' F' H' fp', Grow F H F' H' → Ev true F0 H0 env0 fp0 F' H' env' fp' → R K Z F' H' env' σ' fp' → Q σ' H'
section
variable {X : Cx} {W : WX} {ε : Bool} {k : Kd} {e tg : Expr} {f : FE} {ft : FT} {gD : Md → D → Evn → Option Evn} {ms : List Nat}
theorem DE.canon (h : DE X W ε k e f) : PE X e (tOfE X.K W ε k f) := by
  obtain ⟨t, p, s⟩ := h.ex
  exact ⟨fun pins sh σ H Q I ⟨Z, F, env, fp, r, hp⟩ => p.run pins sh σ H Q I (s Z F H env σ fp Q r hp)⟩
theorem DT.canon (h : DT X W ε e ft) : PT X e (tOfT X.K W ε ft) := by
  obtain ⟨t, p, s⟩ := h.ex
  exact ⟨fun pins sh σ H Q I ⟨Z, F, env, fp, r, hp⟩ => p.run pins sh σ H Q I (s Z F H env σ fp Q r hp)⟩
theorem DG.canonP (h : DG X ms tg gD) (hp : tgPure tg = true) : PG X tg (gOfP X.K ms gD) := by
  obtain ⟨t, p, s⟩ := h.ex
  refine ⟨fun pins sh σ H v uv Q I rv ⟨Z, F0, H0, env0, fp0, F, env, fp, d, fr, md, hm, e0, r, rp, vm, env', hg, hq⟩ => p.run pins sh σ H v uv Q I rv ?_⟩
  exact s Z F0 H0 env0 fp0 F H env σ fp v d fr md _ hm e0 r rp vm ⟨env', hg, fun σ' F' H' fp' gr ev r' sa kp => hq σ' F' H' fp' (gr hp) ev r'⟩
end
def compD (g : D → Evn → Option Evn) (ft : FT) (fe : FE) (env : Evn) : List D → Option (List D)
  | [] => some []
  | x :: xs => match g x env with
    | none => none
    | some e1 => match ft e1 with
      | .ok true _ => (match fe e1 with
        | .ok d _ => (compD g ft fe env xs).map (d :: ·)
        | _ => none)
      | .ok false _ => compD g ft fe env xs
      | _ => none
def msB (n : Nat) (vs : List Nat) : List Nat := (List.range n).filter fun j => !vs.contains j
def fLc (n : Nat) (vs : List Nat) (fI : Evn → Rs (Md × List D × Bool)) (gD : Md → D → Evn → Option Evn) (ft : FT) (fe : FE) : FE := fun env => (fI env).bind fun y e1 =>
  if e1.length = n ∧ (vs.all fun j => decide (j < n)) = true ∧ rootB y.1 (deadM vs (lockR y.1 e1)) = true then (match compD (gChk y.1 gD) ft fe (deadM vs (lockR y.1 e1)) y.2.1 with
    | some ds => if ds.length ≤ sizeLine then .ok (.node true .lst ds) e1 else .stuck
    | none => .stuck) else .stuck
section
variable {K : PySem.W.Frag} {F H F1 H1 F' H' : Hp} {env env1 env' : Evn} {fp fp1 fp' : Fp} {Z : Zst} {σ σ' : L2.St} {ms : List Nat}
theorem wipe_in {σ : L2.St} {j : Nat} : ∀ {vs : List Nat}, j ∈ vs → j < σ.length → (wipe σ vs)[j]? = some none
  | [], h, _ => by cases h
  | v :: vs, h, hl => by
    unfold wipe
    by_cases e : v = j
    · subst e
      rw [List.getElem?_set_self (by rw [wipe_length]; exact hl)]
    · rw [List.getElem?_set_ne e]
      rcases List.mem_cons.mp h with rfl | h
      · exact absurd rfl e
      · exact wipe_in h hl
theorem R.sigma {Z2 : Zst} (r : R K Z F H env σ fp) (hd : ∀ j : Nat, σ'[j]? ≠ σ[j]? → env[j]? = some Sl.dead) (hl : σ'.length = σ.length) (hB : Z2.B = Z.B) (hn : Z2.n = Z.n) (hgh : Z2.gh = Z.gh) (hp : ∀ p ∈ Z2.pins, σ'[p.1]? = some p.2) : R K Z2 F H env σ' fp where
  sub := r.sub
  slot := fun i => by
    have s := r.slot i
    by_cases e : σ'[i]? = σ[i]?
    · unfold SlotR at s ⊢
      rw [e]
      cases q : env[i]? with
      | none => trivial
      | some t =>
        rw [q] at s
        cases t with
        | dead => trivial
        | own d => exact s
        | bor m d =>
          cases m with
          | none =>
            obtain ⟨v, h1, h2, h3⟩ := s
            exact ⟨v, h1, h2, fun a ha => by rw [hB]; exact h3 a ha⟩
          | some m => exact s
    · unfold SlotR
      rw [hd i e]
      trivial
  sep := r.sep
  sepB := fun i hi a ha => by rw [hB]; exact r.sepB i hi a ha
  hF := r.hF
  domB := fun a ha => r.domB a (by rw [← hB]; exact ha)
  pin := hp
  gh := by rw [hgh]; exact r.gh
  len := by rw [hl, hn]; exact r.len
  nf := r.nf
theorem dead_at : ∀ {vs : List Nat} {env : Evn} {j : Nat}, j ∈ vs → j < env.length → (deadM vs env)[j]? = some .dead
  | [], env, j, h, _ => by cases h
  | v :: vs, env, j, h, hl => by
    rw [deadM]
    by_cases e : j ∈ vs
    · exact dead_at e (by rw [putE_length]; exact hl)
    · rcases List.mem_cons.mp h with rfl | h
      · have key : ∀ {vs : List Nat} {env : Evn}, env[j]? = some .dead → j ∉ vs → (deadM vs env)[j]? = some .dead := by
          intro vs
          induction vs with
          | nil => intro env h _; exact h
          | cons w ws ih =>
            intro env h hn
            simp only [List.mem_cons, not_or] at hn
            rw [deadM]
            refine ih ?_ hn.2
            rw [putE_ne hn.1, h]
            rfl
        exact key (putE_same hl) e
      · exact absurd h e
end
section
variable {X : Cx} {W : WX} {ε : Bool} {k : Kd} {tg iter elt c : Expr} {ifs : List Expr} {scope : Scope} {own : List (Str × Nat)} {pos : Pos} {fI : Evn → Rs (Md × List D × Bool)} {gD : Md → D → Evn → Option Evn} {ft : FT} {fe : FE} {n : Nat}
def WF : WX := fun _ _ _ _ => False
theorem comp_sim {K : PySem.W.Frag} {Z2 : Zst} {F1 Hb : Hp} {env2 : Evn} {fp2 : Fp} {σ2 : L2.St} {J : It} {xs : List D} {md : Md} {vs : List Nat} {Dd : Addr} {ds : List D} {Q : VK} (hk : k.prot = true)
    (r0 : R K Z2 F1 Hb env2 σ2 fp2) (io : IOk K Z2 F1 Hb env2 fp2 J xs md) (hrb : rootB md env2 = true) (hD : Hb Dd = none) (hpin : ∀ p ∈ Z2.pins, p.1 ∈ msB n vs) (hpins : ∀ j, j ∉ vs → j < Z2.n → ∃ v, (j, v) ∈ Z2.pins) (hσ : ∀ j ∈ vs, j < Z2.n → σ2[j]? = some none)
    (hc : compD (gChk md gD) ft fe env2 xs = some ds) (hl : ds.length ≤ sizeLine)
    (hq : ∀ F H vals facc, Grow F1 Hb F H → H Dd = some (.lst vals) → F Dd = none → RepL K F H ds vals facc → Dd ∉ facc → (∀ b ∈ facc, Hb b = none ∧ F b = none) → Q (.ref Dd) H) :
    ∃ W : Nat → Nat → Hp → Prop, (∃ m, W 0 m (upd Hb Dd (.lst []))) ∧ ∀ i m H, W i m H →
      (J.stop i H ∧ Q (.ref Dd) H) ∨ (J.go i H ∧ ∃ Nx : Hp → Prop, (∀ H', Nx H' → ∃ m', m' < m ∧ W (i + 1) m' H') ∧ ∀ x H', J.yld i H x H' → gOfP K (msB n vs) gD x σ2 H' fun σ3 H3 => wipe σ3 vs = σ2 ∧ tOfT K WF false ft σ3 H3 fun b H4 =>
        if b = true then tOfE K WF false k fe σ3 H4 fun y H5 => ∃ acc, H5 Dd = some (.lst acc) ∧ acc.length < sizeLine ∧ Nx (upd H5 Dd (.lst (acc ++ [y]))) else Nx H4) := by
  have hF0 : F1 Dd = none := by
    cases q : F1 Dd with
    | none => rfl
    | some u => exact absurd hD (r0.sub Dd u q).ne
  let P : Nat → Hp → Prop := fun i H => i ≤ xs.length ∧ ∃ F acc vals facc, Grow F1 Hb F H ∧ H Dd = some (.lst vals) ∧ F Dd = none ∧ RepL K F H acc vals facc ∧ Dd ∉ facc ∧ (∀ b ∈ facc, Hb b = none ∧ F b = none) ∧ ∃ rest, compD (gChk md gD) ft fe env2 (xs.drop i) = some rest ∧ acc ++ rest = ds
  refine ⟨fun i m H => m = xs.length - i ∧ P i H, ⟨xs.length, rfl, Nat.zero_le _, F1, [], [], [], Grow.upd r0.sub hD, upd_same, hF0, ⟨rfl, rfl⟩, by simp, fun b hb => (by cases hb), ds, hc, rfl⟩, ?_⟩
  rintro i m H ⟨rfl, hi, F, acc, vals, facc, gr, hDl, hFD, rl, nD, hfa, rest, hr, hds⟩
  have r1 := r0.grow gr
  have ev1 : Ev true F1 Hb env2 fp2 F H env2 fp2 := gr.ev
  by_cases hlt : i < xs.length
  · obtain ⟨hgo, hy⟩ := io.go F H env2 fp2 σ2 i _ ev1 r1 hrb (List.getElem?_eq_getElem hlt)
    refine .inr ⟨hgo, P (i + 1), fun H' hP => ⟨xs.length - (i + 1), by omega, rfl, hP⟩, fun x H' hyx => ?_⟩
    obtain ⟨F', fr, g2, rp, vm⟩ := hy x H' hyx
    rw [List.drop_eq_getElem_cons hlt] at hr
    unfold compD at hr
    cases qg : gChk md gD xs[i] env2 with
    | none => rw [qg] at hr; cases hr
    | some e1 =>
      rw [qg] at hr
      simp only at hr
      have qg' : gD md xs[i] env2 = some e1 := by
        unfold gChk at qg
        rw [if_pos hrb] at qg
        exact qg
      refine ⟨Z2, F', H', env2, fp2, F', env2, fp2, xs[i], fr, md, hpin, Ev.refl (Z := Z2) _ rfl, r1.grow g2, rp, vm H' env2 fp2, e1, qg', fun σ3 F3 H3 fp3 g3 ev3 r3 => ?_⟩
      have hw : wipe σ3 vs = σ2 := by
        apply List.ext_getElem?
        intro j
        have l3 := r3.len.1
        have l2 := r0.len.1
        by_cases hj : j < Z2.n
        · by_cases hv : j ∈ vs
          · rw [wipe_in hv (by rw [l3]; exact hj), hσ j hv hj]
          · rw [wipe_out hv]
            obtain ⟨v, hp⟩ := hpins j hv hj
            have z1 := r3.pin _ hp
            have z2 := r0.pin _ hp
            rw [z1, z2]
        · rw [List.getElem?_eq_none (by rw [wipe_length, l3]; omega), List.getElem?_eq_none (by rw [l2]; omega)]
      refine ⟨hw, Z2, F3, e1, fp3, r3, ?_⟩
      -- all that was built stays
      have keep : ∀ {F4 H4}, Grow F H F4 H4 → H4 Dd = some (.lst vals) ∧ F4 Dd = none ∧ RepL K F4 H4 acc vals facc ∧ (∀ b ∈ facc, Hb b = none ∧ F4 b = none) := fun {F4 H4} g => by
        have none_of : ∀ b, F b = none → H b ≠ none → F4 b = none := fun b h1 h2 => by
          cases q : F4 b with
          | none => rfl
          | some u => exact absurd (g.new b h1 (by rw [q]; exact fun z => by cases z)) h2
        exact ⟨g.keep _ _ hDl, none_of Dd hFD (by rw [hDl]; exact fun z => by cases z), rl.grow g, fun b hb => ⟨(hfa b hb).1, none_of b (hfa b hb).2 (RepL.dom _ _ _ rl b hb)⟩⟩
      have gF3 := g2.trans g3
      cases qt : ft e1 with
      | exc c x e => rw [qt] at hr; cases hr
      | stuck => rw [qt] at hr; cases hr
      | ok b e4 =>
        intro F4 H4 fp4 ev4 r4
        obtain ⟨ee4, ef4⟩ := ev4.pure rfl
        subst ee4 ef4
        have g4 := ev4.grow r4
        have gF4 := gF3.trans g4
        cases b with
        | false =>
          rw [qt] at hr
          simp only at hr
          obtain ⟨k1, k2, k3, k4⟩ := keep gF4
          exact ⟨by omega, F4, acc, vals, facc, gr.trans gF4, k1, k2, k3, nD, k4, rest, hr, hds⟩
        | true =>
          rw [qt] at hr
          simp only at hr
          cases qe : fe e4 with
          | exc c x e => rw [qe] at hr; cases hr
          | stuck => rw [qe] at hr; cases hr
          | ok d e5 =>
            rw [qe] at hr
            rw [Option.map_eq_some_iff] at hr
            obtain ⟨rest', hr', rfl⟩ := hr
            simp only [if_true]
            refine ⟨Z2, F4, e4, fp4, r4, ?_⟩
            rw [qe]
            intro F5 H5 fp5 y fy ev5 r5 rp5 ko5
            obtain ⟨ee5, ef5⟩ := ev5.pure rfl
            subst ee5 ef5
            have g5 := ev5.grow r5
            have gF5 := gF4.trans g5
            obtain ⟨k1, k2, k3, k4⟩ := keep gF5
            have gb5 := gr.trans gF5
            have gb4 := gr.trans gF4
            have hfy : ∀ b ∈ fy, Hb b = none ∧ F5 b = none ∧ H4 b = none := fun b hb => by
              cases k with
              | own =>
                obtain ⟨z1, z2, z3⟩ := ko5 b hb
                have n4 : H4 b = none := z1.resolve_right z2
                refine ⟨?_, z3, n4⟩
                cases q : Hb b with
                | none => rfl
                | some o => rw [gb4.keep b o q] at n4; cases n4
              | frz =>
                have z : fy = [] := ko5
                rw [z] at hb
                cases hb
              | bor _ => cases hk
            have hlen : vals.length < sizeLine := by
              rw [rl.len]
              rw [← hds] at hl
              simp at hl
              omega
            have nfy : Dd ∉ fy := fun z => by
              have q := (hfy Dd z).2.2
              rw [(keep gF4).1] at q
              cases q
            have dj : ∀ b ∈ facc, b ∉ fy := fun b hb hm => by
              have q := (hfy b hm).2.2
              exact RepL.dom _ _ _ (keep gF4).2.2.1 b hb q
            have nDa : Dd ∉ facc ++ fy := fun z => (List.mem_append.mp z).elim nD nfy
            refine ⟨vals, k1, hlen, by omega, F5, acc ++ [d], vals ++ [y], facc ++ fy, ?_, upd_same, k2, ?_, nDa, fun b hb => ?_, rest', hr', by rw [← hds]; simp⟩
            · refine ⟨fun a o ho => ?_, gb5.sub, gb5.new, fun a u ha => ?_, fun a o u ho => ?_⟩
              · have ne : a ≠ Dd := fun z => by rw [z, hD] at ho; cases ho
                rw [upd_ne ne]
                exact gb5.keep a o ho
              · have ne : a ≠ Dd := fun z => by rw [z, k2] at ha; cases ha
                exact (gb5.has a u ha).same fun o ho => by rw [upd_ne ne]; exact ho
              · exact gb5.nofz a o u (nofz_upd rfl a o u ho)
            · exact (k3.app (.one rp5) dj).at_upd nDa
            · rcases List.mem_append.mp hb with hb | hb
              · exact k4 b hb
              · exact ⟨(hfy b hb).1, (hfy b hb).2.1⟩
  · refine .inl ⟨io.stop F H env2 fp2 σ2 i ev1 r1 (by omega), ?_⟩
    rw [List.drop_eq_nil_of_le (by omega)] at hr
    cases hr
    rw [List.append_nil] at hds
    subst hds
    exact hq F H vals facc gr hDl hFD rl nD hfa
end
end DL
namespace DL
open PySem PySem.Spec L2
section
variable {X : Cx} {W : WX} {ε : Bool} {k : Kd} {tg iter elt c : Expr} {ifs : List Expr} {scope : Scope} {own : List (Str × Nat)} {pos : Pos} {fI : Evn → Rs (Md × List D × Bool)} {gD : Md → D → Evn → Option Evn} {ft : FT} {fe : FE} {n : Nat} {vs : List Nat} {ms : List Nat}
def fYes : FT := fun env => .ok true env
structure DTs (X : Cx) (ifs : List Expr) (ft : FT) : Prop where
  run : PTs X ifs (tOfT X.K WF false ft)
theorem dts_nil : DTs X [] fYes := ⟨⟨fun pins s σ H Q I ⟨Z, F, env, fp, r, h⟩ => wpAny_tests_nil ⟨H, I, h F H fp (Ev.refl (Z := Z) _ rfl) r⟩⟩⟩
theorem dts_one (h : DT X WF false c ft) : DTs X [c] ft := ⟨pts_one h.canon⟩
theorem lockE_length {env : Evn} {m : Nat} : (lockE m env).length = env.length := by
  unfold lockE
  split
  · rw [List.length_set]
  · rfl
theorem lockR_length {env : Evn} {md : Md} : (lockR md env).length = env.length := by
  unfold lockR
  split
  · exact lockE_length
  · rfl
theorem esim_lc {wi : TI} (hk : k.prot = true) (s1 : ISim X W ε wi fI) (hv : own.map (·.2) = vs) : ESim X.K W ε .own (tUnE X (tLc wi (gOfP X.K (msB n vs) gD) (tOfT X.K WF false ft) (tOfE X.K WF false k fe) (own.map (·.2)))) (fLc n vs fI gD ft fe) := by
  intro Z F H env σ fp Q r h
  rw [hv]
  refine s1 Z F H env σ fp _ r (Post.bind h id id fun y e1 h1 F1 H1 fp1 J lk ev r1 hh hl io => ?_)
  intro Dd hD
  split at h1
  case isFalse => exact h1.elim
  rename_i hcond
  obtain ⟨hlen, hall, hrb⟩ := hcond
  cases qc : compD (gChk y.1 gD) ft fe (deadM vs (lockR y.1 e1)) y.2.1 with
  | none => rw [qc] at h1; exact h1.elim
  | some ds =>
    rw [qc] at h1
    simp only at h1
    split at h1
    case isFalse => exact h1.elim
    rename_i hz
    have hvs : ∀ j ∈ vs, j < n := fun j hj => by
      have := List.all_eq_true.mp hall j hj
      simpa using this
    have hvl : ∀ j ∈ vs, j < (lockR y.1 e1).length := fun j hj => by rw [lockR_length, hlen]; exact hvs j hj
    have rL := lockR_R (md := y.1) r1
    have rD := rL.dead hvl
    have hZn : Z.n = n := by rw [← r1.len.2, hlen]
    let Z2 : Zst := ⟨Z.B, ((msB n vs).filterMap fun j => ((wipe σ vs)[j]?).map fun v => (j, v)), Z.n, Z.gh⟩
    have hl1 := r1.len.1
    have rS : R X.K Z2 F1 H1 (deadM vs (lockR y.1 e1)) (wipe σ vs) (fpD vs fp1) := by
      refine rD.sigma (fun j hj => ?_) (wipe_length σ vs) rfl rfl rfl fun p hp => ?_
      · by_cases hjv : j ∈ vs
        · exact dead_at hjv (hvl j hjv)
        · exact absurd (wipe_out hjv) hj
      · obtain ⟨j, _, h2⟩ := List.mem_filterMap.mp hp
        rw [Option.map_eq_some_iff] at h2
        obtain ⟨v, h3, rfl⟩ := h2
        exact h3
    have hgen : ∀ md, rootB md (deadM vs (lockR y.1 e1)) = true → hang md fp1 (deadM vs (lockR y.1 e1)) (fpD vs fp1) := fun md hrb => by
      cases md with
      | own => trivial
      | bor m =>
        cases m with
        | none => trivial
        | some m =>
          have z := lkD_isLk (show lkD' _ m = true from hrb)
          have z2 := (hold_dead hvl).2.mp z
          exact ⟨z, by unfold fpD; rw [if_neg z2.2]⟩
    have hg := hgen y.1 hrb
    have rK := R.lkH (Z2 := Z2) hl rfl hg rS
    have io' := io Z2 _ _ _ rfl hg rK
    refine comp_sim (Q := fun v H' => Un1 X (Q v) H') hk rK io' hrb hD (fun p hp => ?_) (fun j hj hjn => ?_) (fun j hj hjn => ?_) qc hz fun F2 H2 vals facc gr hDl hFD rl nD hfa => ?_
    · obtain ⟨j, h3, h2⟩ := List.mem_filterMap.mp hp
      rw [Option.map_eq_some_iff] at h2
      obtain ⟨v, _, rfl⟩ := h2
      exact h3
    · have hjl : j < (wipe σ vs).length := by rw [wipe_length, hl1]; exact hjn
      refine ⟨(wipe σ vs)[j], List.mem_filterMap.mpr ⟨j, ?_, by rw [List.getElem?_eq_getElem hjl]; rfl⟩⟩
      unfold msB
      rw [List.mem_filter, List.mem_range]
      have hjn' : j < Z.n := hjn
      exact ⟨by rw [← hZn]; exact hjn', by simpa using hj⟩
    · have hjn' : j < Z.n := hjn
      exact wipe_in hj (by rw [hl1]; exact hjn')
    · -- the end: the heap as it was, with the list
      have fin : ∀ {H3 : Hp}, Grow F1 H1 F2 H3 → H3 Dd = some (.lst vals) → RepL X.K F2 H3 ds vals facc → (∀ b ∈ facc, H1 b = none) → H1 Dd = none → Q (.ref Dd) H3 := fun {H3} g hd rl2 hn hn2 => by
        have e2 : Ev ε F1 H1 e1 fp1 F2 H3 e1 fp1 := g.ev
        refine h1 F2 H3 fp1 (.ref Dd) (Dd :: facc) ((ev.trans e2).mono (by cases ε <;> simp) (by cases ε <;> simp)) (r1.grow g) ?_ fun a ha => ?_
        · rw [Rep]
          exact ⟨Dd, .lst vals, vals, facc, rfl, rfl, .inl hd, rfl, nD, (fun z => by cases z), rl2⟩
        · rcases List.mem_cons.mp ha with rfl | ha
          · exact ⟨.inl (ev.nd hn2), fun z => r1.own_dom z hn2, hFD⟩
          · exact ⟨.inl (ev.nd (hn a ha)), fun z => r1.own_dom z (hn a ha), (hfa a ha).2⟩
      cases lk with
      | none => exact .inl (fin gr hDl rl (fun b hb => (hfa b hb).1) hD)
      | some l =>
        have hgL := lockR_hang (fp := fp1) hh
        obtain ⟨no, hF⟩ := hl.no (Z2 := Z) rfl hgL rL
        have rLk := R.lkH (Z2 := Z) hl rfl hgL rL
        obtain ⟨hi, h5, h6, h7, h8⟩ := hl
        have gr' : Grow F1 (upd H1 l.d (.frz l.od l.u)) F2 H2 := gr
        have rEnd := rLk.grow gr
        obtain ⟨z1, z2, z3⟩ := unfrz (ε := false) h5 h6 no hF gr'.ev rEnd
        have g3 := z1.grow z2
        have ndD : Dd ≠ l.d := fun z => by
          have q : upd H1 l.d (.frz l.od l.u) Dd = none := hD
          rw [z, upd_same] at q
          cases q
        have nf : ∀ b ∈ facc, b ≠ l.d := fun b hb z => by
          have q : upd H1 l.d (.frz l.od l.u) b = none := (hfa b hb).1
          rw [z, upd_same] at q
          cases q
        refine .inr ⟨l.d, l.od, l.u, z3, h7, fin g3 (by rw [upd_ne ndD]; exact hDl) (RepL.mono (fun _ _ h => h) _ _ _ (fun b hb w hw => hw.same fun o ho => by rw [upd_ne (nf b hb)]; exact ho) rl) (fun b hb => ?_) ?_⟩
        · have q : upd H1 l.d (.frz l.od l.u) b = none := (hfa b hb).1
          rw [upd_ne (nf b hb)] at q
          exact q
        · have q : upd H1 l.d (.frz l.od l.u) Dd = none := hD
          rw [upd_ne ndD] at q
          exact q
theorem de_lc (n : Nat) (vs : List Nat) (own : List (Str × Nat)) (hc : X.calm = true) (hN : X.N.Nodup) (hi : DI X W ε tg iter fI)
    (hg : ∀ (s : Shared) (H : Hp) (C : Addr) (cl : List (Str × Addr)) (fp : List Addr), DG (X.blk s H scope (compEnvC scope cl C X.env) fp) (msB n vs) tg gD) (ht : ∀ (s : Shared) (H : Hp) (C : Addr) (cl : List (Str × Addr)) (fp : List Addr), DTs (X.blk s H scope (compEnvC scope cl C X.env) fp) ifs ft)
    (he : ∀ (s : Shared) (H : Hp) (C : Addr) (cl : List (Str × Addr)) (fp : List Addr), DE (X.blk s H scope (compEnvC scope cl C X.env) fp) WF false k elt fe) (hk : k.prot = true := by rfl) (hv : own.map (·.2) = vs := by rfl)
    (ok : blkC X.N X.env.scope scope own = true := by first | rfl | decide) (hp : tgPure tg = true := by rfl) (hs : ∀ x, foldedSetIterable iter X.env x = pure x := by intro _; rfl) : DE X W ε .own (.ListComp elt [⟨tg, iter, ifs, 0⟩] scope pos) (fLc n vs fI gD ft fe) := by
  obtain ⟨wi, p1, s1⟩ := hi.ex
  exact ⟨_, pe_un (pe_lc (te := tOfE X.K WF false k fe) (tt := tOfT X.K WF false ft) (g := gOfP X.K (msB n vs) gD) hc hN p1 (blkOk_by ok) (fun s H C cl fp => (hg s H C cl fp).canonP hp) (fun s H C cl fp => (ht s H C cl fp).run) (fun s H C cl fp => (he s H C cl fp).canon) hs), esim_lc hk s1 hv⟩
theorem ds_setLc (i : Nat) {y : Str} {py spos : Pos} (n : Nat) (vs : List Nat) (own : List (Str × Nat)) (hc : X.calm = true) (hN : X.N.Nodup) (hi : DI X W ε tg iter fI)
    (hg : ∀ (s : Shared) (H : Hp) (C : Addr) (cl : List (Str × Addr)) (fp : List Addr), DG (X.blk s H scope (compEnvC scope cl C X.env) fp) (msB n vs) tg gD) (ht : ∀ (s : Shared) (H : Hp) (C : Addr) (cl : List (Str × Addr)) (fp : List Addr), DTs (X.blk s H scope (compEnvC scope cl C X.env) fp) ifs ft)
    (he : ∀ (s : Shared) (H : Hp) (C : Addr) (cl : List (Str × Addr)) (fp : List Addr), DE (X.blk s H scope (compEnvC scope cl C X.env) fp) WF false k elt fe) (hm : i ∉ ms := by decide) (hy : X.N[i]? = some y := by rfl) (hyl : X.env.scope.names.lookup y = some .local := by rfl)
    (hsw : swapsWith (.ListComp elt [⟨tg, iter, ifs, 0⟩] scope pos) (some (.Name y py)) spos.line X.env = pure true := by rfl) (hk : k.prot = true := by rfl) (hv : own.map (·.2) = vs := by rfl)
    (ok : blkC X.N X.env.scope scope own = true := by first | rfl | decide) (hp : tgPure tg = true := by rfl) (hs : ∀ x, foldedSetIterable iter X.env x = pure x := by intro _; rfl) : DS X W ms (.Assign [.Name y py] (.ListComp elt [⟨tg, iter, ifs, 0⟩] scope pos) spos) (fAsg .own (fLc n vs fI gD ft fe) (gNm i)) := by
  obtain ⟨wi, p1, s1⟩ := hi.ex
  have key := ps_setLc (te := tOfE X.K WF false k fe) (tt := tOfT X.K WF false ft) (g := gOfP X.K (msB n vs) gD) (i := i) hc hN hy hyl hsw p1 (blkOk_by ok) (fun s H C cl fp => (hg s H C cl fp).canonP hp) (fun s H C cl fp => (ht s H C cl fp).run) (fun s H C cl fp => (he s H C cl fp).canon) hs
  refine ⟨_, ps_un key, fun Z F H env σ fp D_ hm' r h => ?_⟩
  refine (esim_lc (ε := ε) (n := n) (fI := fI) (gD := gD) (ft := ft) (fe := fe) hk s1 hv Z F H env σ fp (fun v H' => gName i v σ H' D_.nx) r (SPost.bind h fun d e1 h1 F1 H1 fp1 v fr ev r1 rp ko => ?_) :)
  cases q : (mdOf .own e1).bind fun md => gNm i md d e1 with
  | none => rw [q] at h1; exact h1.elim
  | some e2 =>
    rw [q] at h1
    rw [Option.bind_eq_some_iff] at q
    obtain ⟨md, q1, q2⟩ := q
    exact gsim_name (b := true) hm Z F H env fp F1 H1 e1 σ fp1 v d fr md D_.nx hm' (ev.mono (fun _ => rfl) fun z => by cases z) r1 rp (VMo.of_kd r ev r1 ko q1) ⟨e2, q2, fun σ' F' H' fp' _ ev' r' _ _ => h1 F' H' fp' σ' ev' r'⟩
end
end DL
namespace DL
open PySem PySem.Spec L2
section
variable {X : Cx} {K : PySem.W.Frag} {f : Value} {r1 r2 : List V → Hp → VK → Prop}
theorem callr_or (h1 : CallR X f r1) (h2 : CallR X f r2) : CallR X f (fun xs H Q => r1 xs H Q ∨ r2 xs H Q) := fun pins s σ H xs us Q I r h => h.elim (h1 pins s σ H xs us Q I r) (h2 pins s σ H xs us Q I r)
def rLen (K : PySem.W.Frag) : List V → Hp → VK → Prop := fun xs H Q => (∃ z, xs = [.str z] ∧ z.length ≤ sizeLine ∧ Q (.int z.length) H) ∨ (∃ p ys, xs = [.ref p] ∧ (SqL K H p ys ∨ SqT K H p ys) ∧ Q (.int ys.length) H) ∨
  (∃ a kvs, xs = [V.ref a] ∧ Rd H a (.dK kvs) ∧ Q (.int kvs.length) H) ∨ ∃ a kvs, xs = [V.ref a] ∧ Rd H a (.dT kvs) ∧ Q (.int kvs.length) H
theorem cr_len : CallR X (.builtin "len") (rLen X.K) := by
  intro pins s σ H xs us Q I r h
  rcases h with h | h | ⟨a, kvs, rfl, hd, q⟩ | ⟨a, kvs, rfl, hd, q⟩
  · exact call_len_str pins s σ H xs us Q I r h
  · exact call_len_seq pins s σ H xs us Q I r h
  · obtain ⟨u, rfl, rx⟩ := vals1 r
    obtain rfl : u = .ref a := rx
    exact d_len I hd fun t s' I' => ⟨.int kvs.length, H, I', ⟨t, rfl⟩, q⟩
  · obtain ⟨u, rfl, rx⟩ := vals1 r
    obtain rfl : u = .ref a := rx
    obtain ⟨z, hs, ys, rel, dd⟩ := dt_rd I.hok hd
    have hl : kvs.length = ys.length := Paired.length rel
    have hn := line63
    refine PySem.call_len_dictH hs dd (by omega) ?_
    rw [← hl]
    exact ⟨.int kvs.length, H, I.tok _, ⟨_, rfl⟩, q⟩
theorem ok_len : OpOk K (rLen K) oLen := by
  intro F H ds vs frs d Q hs rep e q
  unfold oLen at e
  split at e
  · rw [Option.map_eq_some_iff] at e
    obtain ⟨n, e1, rfl⟩ := e
    obtain ⟨v, fr, rfl, rfl, h1⟩ := rep.one
    unfold lenD at e1
    have fin : ∀ (m : Nat), m = n → Q (.int m) H := fun m hm => by rw [hm]; exact same_q hs (.plain rfl) q
    split at e1
    · split at e1
      · rename_i hz
        cases e1
        obtain rfl : v = .str _ := h1.1
        exact .inl ⟨_, rfl, hz, fin _ rfl⟩
      · cases e1
    · cases e1
      obtain ⟨p, ys, fq, rfl, hp, rl, _⟩ := h1.lst hs
      exact .inr (.inl ⟨p, ys, rfl, .inl (.of hp), fin _ (by rw [rl.len])⟩)
    · cases e1
      obtain ⟨p, ys, fq, rfl, hp, rl, _⟩ := h1.tup hs
      exact .inr (.inl ⟨p, ys, rfl, .inr (.of hp), fin _ (by rw [rl.len])⟩)
    · cases e1
      obtain ⟨a, u, vs, fq, rfl, h3, ⟨⟨hl, _⟩, rfl⟩, h5, _⟩ := h1.node hs
      exact .inr (.inr (.inl ⟨a, _, rfl, h3.rd, fin _ (by rw [List.length_zip, hl, Nat.min_self, h5.len])⟩))
    · cases e1
      obtain ⟨a, u, vs, fq, rfl, h3, ⟨⟨hl, _⟩, rfl⟩, h5, _⟩ := h1.node hs
      exact .inr (.inr (.inr ⟨a, _, rfl, h3.rd, fin _ (by rw [List.length_zip, hl, Nat.min_self, h5.len])⟩))
    · cases e1
  · cases e
def r1p (P : V → V → Prop) : List V → Hp → VK → Prop := fun xs H Q => ∃ x y, xs = [x] ∧ P x y ∧ Q y H
def o1 (g : D → Option D) : List D → Option D := fun ds => match ds with
  | [d] => g d
  | _ => none
theorem ok_1p {P : V → V → Prop} {g : D → Option D} (h : ∀ d e, g d = some e → ∃ x y, plainV d = some x ∧ plainV e = some y ∧ P x y) : OpOk K (r1p P) (o1 g) := by
  intro F H ds vs frs d Q hs rep e q
  unfold o1 at e
  split at e
  · rename_i c
    obtain ⟨x, y, h1, h2, h3⟩ := h _ _ e
    obtain ⟨v, fr, rfl, rfl, h4⟩ := rep.one
    have ev : v = x := by
      cases c <;> simp only [plainV, Option.some.injEq, reduceCtorEq] at h1 <;> subst h1 <;> exact h4.1
    subst ev
    exact ⟨v, y, rfl, h3, same_q hs (.plain h2) q⟩
  · cases e
def gAbs : D → Option D
  | .int i => some (.int (if i < 0 then -i else i))
  | _ => none
theorem cr_abs : CallR X (.builtin "abs") (r1p fun x y => ∃ i, x = .int i ∧ y = .int (if i < 0 then -i else i)) := fun pins s σ H xs us Q I r ⟨x, y, e, ⟨i, ex, ey⟩, q⟩ => by
  subst e ex ey
  exact call_abs pins s σ H _ us Q I r ⟨i, rfl, q⟩
theorem ok_abs : OpOk K (r1p fun x y => ∃ i, x = .int i ∧ y = .int (if i < 0 then -i else i)) (o1 gAbs) := ok_1p fun d e h => by
  cases d <;> simp only [gAbs, Option.some.injEq, reduceCtorEq] at h
  subst h
  exact ⟨_, _, rfl, rfl, _, rfl, rfl⟩
def gStr : D → Option D
  | .int i => if i.natAbs.log2 < 1920 then some (.str (toString i)) else none
  | .str x => some (.str x)
  | _ => none
def PStr (x y : V) : Prop := (∃ i : Int, x = .int i ∧ i.natAbs.log2 < 1920 ∧ y = .str (toString i)) ∨ ∃ a, x = .str a ∧ y = .str a
theorem cr_str : CallR X (.type "str") (r1p PStr) := fun pins s σ H xs us Q I r ⟨x, y, e, h, q⟩ => by
  subst e
  rcases h with ⟨i, ex, hz, ey⟩ | ⟨a, ex, ey⟩
  · subst ex ey
    exact call_str_int pins s σ H _ us Q I r ⟨i, rfl, hz, q⟩
  · subst ex ey
    exact SkE.call_str_str pins s σ H _ us Q I r ⟨_, rfl, q⟩
theorem ok_str : OpOk K (r1p PStr) (o1 gStr) := ok_1p fun d e h => by
  cases d <;> simp only [gStr, Option.some.injEq, reduceCtorEq] at h
  · split at h
    · rename_i hz
      cases h
      exact ⟨_, _, rfl, rfl, .inl ⟨_, rfl, hz, rfl⟩⟩
    · cases h
  · subst h
    exact ⟨_, _, rfl, rfl, .inr ⟨_, rfl, rfl⟩⟩
def blsD : List D → Option (List Bool)
  | [] => some []
  | .bl b :: ds => (blsD ds).map (b :: ·)
  | _ => none
theorem blsD_rep {F H : Hp} : ∀ {ds : List D} {bs : List Bool} {vs : List V} {fr : List Addr}, blsD ds = some bs → RepL K F H ds vs fr → vs = bs.map V.bl
  | [], bs, vs, fr, e, h => by cases e; exact h.nil_inv.1
  | .bl b :: ds, bs, vs, fr, e, h => by
    simp only [blsD, Option.map_eq_some_iff] at e
    obtain ⟨bs', e1, rfl⟩ := e
    obtain ⟨v, ws, f1, f2, rfl, rfl, _, h2, h3⟩ := h.cons_inv
    rw [blsD_rep e1 h3, h2.1]
    rfl
  | .non :: _, _, _, _, e, _ => by cases e
  | .int _ :: _, _, _, _, e, _ => by cases e
  | .str _ :: _, _, _, _, e, _ => by cases e
  | .ob _ :: _, _, _, _, e, _ => by cases e
  | .ty _ :: _, _, _, _, e, _ => by cases e
  | .scr _ :: _, _, _, _, e, _ => by cases e
  | .tscr _ _ :: _, _, _, _, e, _ => by cases e
  | .lam _ _ _ :: _, _, _, _, e, _ => by cases e
  | .node _ _ _ :: _, _, _, _, e, _ => by cases e
def oAll : List D → Option D
  | [.node _ .lst xs] => (blsD xs).map fun bs => .bl (bs.all id)
  | _ => none
def oAny : List D → Option D
  | [.node _ .lst xs] => (blsD xs).map fun bs => .bl (bs.any id)
  | _ => none
theorem ok_all : OpOk K (rAll K) oAll := by
  intro F H ds vs frs d Q hs rep e q
  unfold oAll at e
  split at e
  · rw [Option.map_eq_some_iff] at e
    obtain ⟨bs, e1, rfl⟩ := e
    obtain ⟨v, fr, rfl, rfl, h1⟩ := rep.one
    obtain ⟨p, ys, fq, rfl, hp, rl, _⟩ := h1.lst hs
    exact ⟨p, bs, rfl, .inl (.inl (by rw [hp, blsD_rep e1 rl])), same_q hs (.plain rfl) q⟩
  · cases e
theorem ok_any : OpOk K (rAny K) oAny := by
  intro F H ds vs frs d Q hs rep e q
  unfold oAny at e
  split at e
  · rw [Option.map_eq_some_iff] at e
    obtain ⟨bs, e1, rfl⟩ := e
    obtain ⟨v, fr, rfl, rfl, h1⟩ := rep.one
    obtain ⟨p, ys, fq, rfl, hp, rl, _⟩ := h1.lst hs
    exact ⟨p, bs, rfl, .inl (.inl (by rw [hp, blsD_rep e1 rl])), same_q hs (.plain rfl) q⟩
  · cases e
end
end DL
namespace DL
open PySem PySem.Spec L2
section
variable {X : Cx} {K : PySem.W.Frag}
def rList (K : PySem.W.Frag) : List V → Hp → VK → Prop := fun xs H Q => (∃ p ys, xs = [.ref p] ∧ (SqL K H p ys ∨ SqT K H p ys) ∧ ∀ l, H l = none → Q (.ref l) (upd H l (.lst ys))) ∨
  ∃ (a : Addr) (kvs : List (Key × V)), xs = [.ref a] ∧ Rd H a (.dK kvs) ∧ ∀ p, H p = none → Q (.ref p) (upd H p (.lst (kvs.map fun kv => kV kv.1)))
theorem cr_list (hc : X.calm = true) : CallR X (.type "list") (rList X.K) := callr_or call_list_of (call_listD hc)
def oList : List D → Option D
  | [.node _ .lst xs] => if frzL xs = true then some (.node true .lst xs) else none
  | [.node _ .tup xs] => if frzL xs = true then some (.node true .lst xs) else none
  | [.node _ (.dic ks) _] => some (.node true .lst (ks.map keyV))
  | _ => none
theorem new_own {F H : Hp} {s : Sh} {xs : List D} {vs : List V} {u : HO} {l : Addr} (hs : ∀ a u, F a = some u → Has H a u) (rl : RepL K F H xs vs []) (hl : H l = none) (hi : IsN K s vs u) (ht : s ≠ .tup) :
    Grow F H F (upd H l u) ∧ Rep K F (upd H l u) (.node true s xs) (.ref l) [l] ∧ ∀ a ∈ [l], H a = none ∧ F a = none := by
  refine ⟨Grow.upd hs hl hi.nfz, Rep.mk_own rl (by simp) hi ht, fun a ha => ?_⟩
  rw [List.mem_singleton] at ha
  subst ha
  refine ⟨hl, ?_⟩
  cases q : F a with
  | none => rfl
  | some u => exact absurd hl (hs a u q).ne
theorem keys_rep {F H : Hp} : ∀ ks : List Key, RepL K F H (ks.map keyV) (ks.map kV) []
  | [] => ⟨rfl, rfl⟩
  | k :: ks => by
    have h : Rep K F H (keyV k) (kV k) [] := by
      cases k with
      | inl i => exact .plain rfl
      | inr x => exact .plain rfl
    have := RepL.mk (f1 := []) (f2 := []) (fun a z => by cases z) h (keys_rep ks)
    simpa using this
theorem ok_list : OpOk K (rList K) oList := by
  intro F H ds vs frs d Q hs rep e q
  unfold oList at e
  split at e
  · split at e
    · rename_i hz
      cases e
      obtain ⟨v, fr, rfl, rfl, h1⟩ := rep.one
      obtain ⟨p, ys, fq, rfl, hp, rl, _⟩ := h1.lst hs
      have z := RepL.frz_nil _ _ _ hz rl
      subst z
      refine .inl ⟨p, ys, rfl, .inl (.of hp), fun l hl => ?_⟩
      obtain ⟨g, r, n⟩ := new_own (s := .lst) hs rl hl rfl (by simp)
      exact q F _ _ [l] g r n
    · cases e
  · split at e
    · rename_i hz
      cases e
      obtain ⟨v, fr, rfl, rfl, h1⟩ := rep.one
      obtain ⟨p, ys, fq, rfl, hp, rl, _⟩ := h1.tup hs
      have z := RepL.frz_nil _ _ _ hz rl
      subst z
      refine .inl ⟨p, ys, rfl, .inr (.of hp), fun l hl => ?_⟩
      obtain ⟨g, r, n⟩ := new_own (s := .lst) hs rl hl rfl (by simp)
      exact q F _ _ [l] g r n
    · cases e
  · rename_i o ks xs
    cases e
    obtain ⟨v, fr, rfl, rfl, h1⟩ := rep.one
    obtain ⟨a, u, vs, fq, rfl, h3, ⟨⟨hl, _⟩, rfl⟩, h5, _⟩ := h1.node hs
    refine .inr ⟨a, _, rfl, h3.rd, fun l hl' => ?_⟩
    have e2 : (ks.zip vs).map (fun kv => kV kv.1) = ks.map kV := by
      rw [show (fun kv : Key × V => kV kv.1) = kV ∘ Prod.fst from rfl, ← List.map_map, List.map_fst_zip (by omega)]
    rw [e2]
    obtain ⟨g, r, n⟩ := new_own (K := K) (s := .lst) hs (keys_rep ks) hl' rfl (by simp)
    exact q F _ _ [l] g r n
  · cases e
def rTuple (K : PySem.W.Frag) : List V → Hp → VK → Prop := fun xs H Q => ∃ p ys, xs = [.ref p] ∧ ((SqL K H p ys ∧ ∀ l, H l = none → Q (.ref l) (upd H l (.tup ys))) ∨ (SqT K H p ys ∧ Q (.ref p) H))
def oTuple : List D → Option D
  | [.node _ .lst xs] => if frzL xs = true then some (.node false .tup xs) else none
  | [.node false .tup xs] => some (.node false .tup xs)
  | _ => none
theorem new_frz {F H : Hp} {s : Sh} {xs : List D} {vs : List V} {u : HO} {l : Addr} (hs : ∀ a u, F a = some u → Has H a u) (rl : RepL K F H xs vs []) (hl : H l = none) (hi : IsN K s vs u) :
    Grow F H (upd F l u) (upd H l u) ∧ Rep K (upd F l u) (upd H l u) (.node false s xs) (.ref l) [] := by
  have g := Grow.updF (o := u) hs hl hi.nfz
  refine ⟨g, ?_⟩
  rw [Rep]
  exact ⟨l, u, vs, rfl, rfl, upd_same, hi, rl.grow g⟩
theorem ok_tuple : OpOk K (rTuple K) oTuple := by
  intro F H ds vs frs d Q hs rep e q
  unfold oTuple at e
  split at e
  · split at e
    · rename_i hz
      cases e
      obtain ⟨v, fr, rfl, rfl, h1⟩ := rep.one
      obtain ⟨p, ys, fq, rfl, hp, rl, _⟩ := h1.lst hs
      have z := RepL.frz_nil _ _ _ hz rl
      subst z
      refine ⟨p, ys, rfl, .inl ⟨.inl (.of hp), fun l hl => ?_⟩⟩
      obtain ⟨g, r⟩ := new_frz (s := .tup) hs rl hl rfl
      exact q _ _ _ [] g r fun a ha => by cases ha
    · cases e
  · cases e
    obtain ⟨v, fr, rfl, rfl, h1⟩ := rep.one
    have h1' := h1
    obtain ⟨p, ys, fq, rfl, hp, rl, _⟩ := h1.tup hs
    refine ⟨p, ys, rfl, .inr ⟨.inl (.of hp), ?_⟩⟩
    simp only [Rep] at h1'
    obtain ⟨_, _, _, _, z, _⟩ := h1'
    subst z
    exact q F H _ [] (Grow.refl hs) h1 fun a ha => by cases ha
  · cases e
def tyKD : D → Option TyK
  | .non => some (.bi "NoneType")
  | .bl _ => some (.bi "bool")
  | .int _ => some (.bi "int")
  | .str _ => some (.bi "str")
  | .node _ .lst _ => some (.bi "list")
  | .node _ .tup _ => some (.bi "tuple")
  | .node _ (.dic _) _ => some (.bi "dict")
  | .node _ (.dit _) _ => some (.bi "dict")
  | .node _ (.ins c _) _ => some (.own c)
  | _ => none
def look2 {κ : Type} [DecidableEq κ] (tab : List (κ × Bool)) (k : κ) : Option Bool := match tab with
  | [] => none
  | p :: r => if p.1 = k then some p.2 else look2 r k
theorem look2_mem {κ : Type} [DecidableEq κ] {k : κ} {b : Bool} : ∀ {tab : List (κ × Bool)}, look2 tab k = some b → (k, b) ∈ tab
  | [], h => by cases h
  | p :: r, h => by
    unfold look2 at h
    by_cases z : p.1 = k
    · rw [if_pos z] at h
      cases h
      rw [← z]
      exact List.mem_cons_self ..
    · rw [if_neg z] at h
      exact List.mem_cons_of_mem _ (look2_mem h)
def oIsi (tab : List (TyK × Bool)) : List D → Option D
  | [x] => ((tyKD x).bind (look2 tab)).map .bl
  | _ => none
def rIsi2 (K : PySem.W.Frag) : List V → Hp → VK → Prop := fun xs H Q => rIsi K xs H Q ∨ ∃ (a : Addr) (ob : Obj) (kvs : List (List Key × V)) (c : V) (u : Value) (b : Bool), xs = [.ref a, c] ∧ H a = some (.frz ob (.dT kvs)) ∧ ClsV c u ∧ PySem.W.kitOne K (.type "dict") u = some b ∧ Q (.bl b) H
theorem cr_isi : CallR X (.builtin "isinstance") (rIsi2 X.K) := by
  intro pins s σ H xs us Q I r h
  rcases h with h | ⟨a, ob, kvs, c, u, b, rfl, ea, k, e, q⟩
  · exact call_isi pins s σ H xs us Q I r h
  · obtain ⟨u1, u2, rfl, r1, r2⟩ := vals2 r
    have e2 := k.eq r2
    subst e2
    obtain rfl : u1 = .ref a := r1
    obtain ⟨hs, hgd, hx, es, ep, hdt, hsz, ent⟩ := I.frzT ea
    exact PySem.W.kia_one PySem.W.kitx_dict I.kIn ⟨ob, hgd, hx.1⟩ e (fun z => nomatch z) fun tk => ⟨.bl b, H, I.tok tk, rfl, q⟩
def rIsi1 (K : PySem.W.Frag) (c : V) : List V → Hp → VK → Prop := fun xs H Q => match xs with
  | [x] => rIsi2 K [x, c] H Q
  | _ => False
theorem ok_isi {u : Value} {c : V} {tab : List (TyK × Bool)} (hk : ClsV c u) (ht : isiB K u tab = true) : OpOk K (rIsi1 K c) (oIsi tab) := by
  intro F H ds vs frs d Q hs rep e q
  unfold oIsi at e
  split at e
  case h_2 => cases e
  rename_i x
  obtain ⟨v, f, rfl, rfl, h1⟩ := rep.one
  simp only [Option.map_eq_some_iff, Option.bind_eq_some_iff] at e
  obtain ⟨b, ⟨ty, h3, h4⟩, rfl⟩ := e
  have hm := List.all_eq_true.mp ht _ (look2_mem h4)
  rw [Bool.and_eq_true, decide_eq_true_eq] at hm
  show rIsi2 K [v, c] H Q
  have hq : Q (.bl b) H := same_q hs (.plain rfl) q
  have fin : TyX K H v (ty.val K) → rIsi2 K [v, c] H Q := fun tx => .inl ⟨v, c, _, u, b, rfl, hk, tx, hm.1, hq⟩
  cases x with
  | non => cases h3; cases h1.1; exact fin (.base .non)
  | bl z => cases h3; cases h1.1; exact fin (.base (.bl z))
  | int z => cases h3; cases h1.1; exact fin (.base (.int z))
  | str z => cases h3; cases h1.1; exact fin (.base (.str z))
  | ob _ => cases h3
  | ty _ => cases h3
  | scr _ => cases h3
  | tscr _ _ => cases h3
  | lam _ _ _ => cases h3
  | node o s zs =>
    obtain ⟨a, uu, vs, fq, rfl, h5, h6, h7, _⟩ := h1.node hs
    cases s with
    | lst =>
      cases h3
      have h6' : uu = .lst vs := h6
      subst h6'
      exact fin (.base (.lst (h5.ex rfl)))
    | tup =>
      cases h3
      have h6' : uu = .tup vs := h6
      subst h6'
      exact fin (.base (.tup (h5.ex rfl)))
    | dic ks =>
      cases h3
      obtain ⟨_, rfl⟩ := h6
      rcases h5 with h5 | ⟨⟨oo, h5⟩, _⟩
      · exact fin (.base (.dK h5))
      · exact fin (.fDict h5)
    | dit ks =>
      cases h3
      obtain ⟨_, rfl⟩ := h6
      rcases h5 with h5 | ⟨⟨oo, h5⟩, _⟩
      · exact fin (.base (.dT h5))
      · exact .inr ⟨a, oo, _, c, u, b, rfl, h5, hk, hm.1, hq⟩
    | ins cc fs =>
      cases h3
      obtain ⟨_, dx, rfl⟩ := h6
      have hi : insB K cc = true := hm.2
      unfold insB at hi
      simp only [Bool.and_eq_true, decide_eq_true_eq] at hi
      obtain ⟨i1, i2, i3, i4, i5⟩ := hi
      exact fin (.base (.ins (h5.ex rfl) (He.cls_ok i1) i2 i3 i4 i5))
    | exd _ => cases h3
end
section
variable {X : Cx} {W : WX} {ε : Bool} {k : Kd} {a T : Expr} {fa : FE} {p pos : Pos} {c : V} {u : Value}
theorem de_isi (tab : List (TyK × Bool)) (hm : X.mg "isinstance" = none) (ha : DE X W ε k a fa) (hT : PE X T (tC c)) (hk : ClsV c u) (ht : isiB X.K u tab = true) (hg : Gl X "isinstance" := by rfl) (hv : bootBuiltins "isinstance" = some (.builtin "isinstance") := by decide +kernel)
    (he : starEach [a, T] X.env = (false, eval a X.env) :: starEach [T] X.env := by rfl) (he2 : starEach [T] X.env = (false, eval T X.env) :: starEach [] X.env := by rfl) (hpl : (backTo pos (starEach [T] X.env)).any (·.1) = false := by rfl) :
    DE X W (ε || false) .own (.Call (.Name "isinstance" p) [a, T] [] pos) (fOp (oIsi tab) (aCons fa aNil)) := by
  obtain ⟨t, p1, s1⟩ := ha.ex
  exact ⟨_, pe_callB cr_isi hg hm hv (pa_cons p1 (pa_cons hT pa_nil he2) he) (by decide) (by decide) he hpl, esim_op (asim_cons s1 asim_nil) (ok_isi hk ht) fun σ H Q h => h⟩
theorem de_isiB (n : String) {x : Str} {px : Pos} (tab : List (TyK × Bool)) (hm : X.mg "isinstance" = none) (hmT : X.mg x = none) (ha : DE X W ε k a fa) (ht : isiB X.K (.type n) tab = true) (hgT : Gl X x := by rfl) (hvT : bootBuiltins x = some (.type n) := by decide +kernel) (hnT : x ≠ "__name__" := by decide)
    (hdT : (x == ("__debug__" : Str)) = false := by decide) (hg : Gl X "isinstance" := by rfl) (hv : bootBuiltins "isinstance" = some (.builtin "isinstance") := by decide +kernel)
    (he : starEach [a, .Name x px] X.env = (false, eval a X.env) :: starEach [.Name x px] X.env := by rfl) (he2 : starEach [.Name x px] X.env = (false, eval (.Name x px) X.env) :: starEach [] X.env := by rfl) (hpl : (backTo pos (starEach [.Name x px] X.env)).any (·.1) = false := by rfl) :
    DE X W (ε || false) .own (.Call (.Name "isinstance" p) [a, .Name x px] [] pos) (fOp (oIsi tab) (aCons fa aNil)) :=
  de_isi tab hm ha (pe_bltn (v := .ty n) hgT hmT hvT rfl hnT hdT) (.ty n) ht hg hv he he2 hpl
theorem de_isiC (cl : Str) {x : Str} {px : Pos} (tab : List (TyK × Bool)) (hm : X.mg "isinstance" = none) (hmT : X.mg x = some (.ref (He.ga X.K cl))) (ha : DE X W ε k a fa) (ht : isiB X.K (.ref (He.ga X.K cl)) tab = true) (hgT : Gl X x := by rfl)
    (hdT : (x == ("__debug__" : Str)) = false := by decide) (hg : Gl X "isinstance" := by rfl) (hv : bootBuiltins "isinstance" = some (.builtin "isinstance") := by decide +kernel)
    (he : starEach [a, .Name x px] X.env = (false, eval a X.env) :: starEach [.Name x px] X.env := by rfl) (he2 : starEach [.Name x px] X.env = (false, eval (.Name x px) X.env) :: starEach [] X.env := by rfl) (hpl : (backTo pos (starEach [.Name x px] X.env)).any (·.1) = false := by rfl) :
    DE X W (ε || false) .own (.Call (.Name "isinstance" p) [a, .Name x px] [] pos) (fOp (oIsi tab) (aCons fa aNil)) :=
  de_isi tab hm ha (pe_glob (v := .ref (He.ga X.K cl)) hgT hmT rfl hdT) (.own _) ht hg hv he he2 hpl
end
end DL
namespace DL
open PySem PySem.Spec L2
section
variable {X : Cx} {W : WX} {ε : Bool} {k : Kd} {ks : List Kd} {ms : List Nat} {e a b c : Expr} {st : Stmt} {sts : List Stmt} {fa : FA} {pos : Pos}
def fNevS : FS := fun _ => .stuck
theorem ds_never : DS X W ms st fNevS := ⟨_, ps_never, fun _ _ _ _ _ _ _ _ _ h => h.elim⟩
def fPar (fa : FA) (g : Md → List D → Evn → Option Evn) : FS := fun env => (fa env).so fun ds e => optS (g .own ds e)
theorem ssim_par {ta : TA} {t : TGs} {g : Md → List D → Evn → Option Evn} (sa : ASim X.K W ε ks ta fa) (hp : ks.all Kd.prot = true) {b : Bool} (sg : GsSim X.K b ms t g) : SSim X.K W ms (fun D σ H => ta σ H fun vs H1 => t vs σ H1 D.nx) (fPar fa g) := by
  intro Z F H env σ fp D_ hm r h
  refine sa Z F H env σ fp _ r (SPost.bind h fun ds e1 h1 F1 H1 fp1 vs frs ev r1 rep ko => ?_)
  cases q : g .own ds e1 with
  | none => rw [q] at h1; exact h1.elim
  | some e2 =>
    rw [q] at h1
    obtain ⟨rl, own⟩ := rep.flat ko hp
    have vm := VMo.of_kd (k := .own) (md := .own) r ev r1 own rfl
    exact sg Z F H env fp F1 H1 e1 σ fp1 vs ds frs.flatten .own D_.nx hm (ev.mono (fun _ => rfl) fun z => by cases z) r1 rl vm ⟨e2, q, fun σ' F' H' fp' _ ev' r' _ _ => h1 F' H' fp' σ' ev' r'⟩
theorem ds_par2 (i j : Nat) {x y : Str} {px py pt : Pos} {kt k2 pt2} (hc : X.calm = true) (hN : X.N.Nodup) (ha : DA X W ε ks [a, b] fa) (hij : i ≠ j := by decide) (hi : X.N[i]? = some x := by rfl) (hj : X.N[j]? = some y := by rfl) (hmi : i ∉ ms := by decide) (hmj : j ∉ ms := by decide)
    (hx : X.env.scope.names.lookup x = some .local := by rfl) (hy : X.env.scope.names.lookup y = some .local := by rfl) (hp : ks.all Kd.prot = true := by rfl)
    (hw : swappedStores [.Tuple [.Name x px, .Name y py] kt pt] (.Tuple [a, b] k2 pt2) X.env = pure (some [x, y]) := by rfl)
    (hs : swapsWithSole [.Tuple [.Name x px, .Name y py] kt pt] (.Tuple [a, b] k2 pt2) pos.line X.env = pure false := by rfl) :
    DS X W ms (.Assign [.Tuple [.Name x px, .Name y py] kt pt] (.Tuple [a, b] k2 pt2) pos) (fPar fa (gsCons (gNm i) (gsCons (gNm j) gsNil))) := by
  obtain ⟨t, p, s⟩ := ha.ex
  refine ⟨_, ps_par hc hN hi hj hij hx hy p hw hs, fun Z F H env σ fp D_ hm r h => ?_⟩
  have lens : ∀ {vs : List V} {n : Nat}, True := trivial
  refine (?_ : t σ H fun vs H1 => ∃ v w, vs = [v, w] ∧ D_.nx ((σ.set i (some v)).set j (some w)) H1)
  have key := ssim_par (W := W) s hp (gssim_cons (b1 := true) (gsim_name hmi) (gssim_cons (b1 := true) (b2 := true) (gsim_name hmj) gssim_nil)) Z F H env σ fp D_ hm r h
  have e : (fun (vs : List V) (H1 : Hp) => gCons (gName i) (gCons (gName j) gNil) vs σ H1 D_.nx) = fun vs H1 => ∃ v w, vs = [v, w] ∧ D_.nx ((σ.set i (some v)).set j (some w)) H1 := by
    funext vs H1
    refine propext ⟨fun ⟨v, r, e1, w, r2, e2, e3, q⟩ => ⟨v, w, by rw [e1, e2, e3], q⟩, fun ⟨v, w, e1, q⟩ => ⟨v, [w], e1, w, [], rfl, rfl, q⟩⟩
  rw [← e]
  exact key
end
end DL
namespace DL
open PySem PySem.Spec L2
section
variable {X : Cx} {W : WX} {ε : Bool} {k : Kd} {e v1 v2 : Expr} {es : List Expr} {f : FE} {fs : List FE} {pos : Pos}
def fFmt (f : FE) : FE := fun env => (f env).bind fun d e => match d with
  | .str y => if y.length ≤ sizeLine then .ok (.str y) e else .stuck
  | .int i => if i.natAbs.log2 < 1920 then .ok (.str (toString i)) e else .stuck
  | _ => .stuck
theorem de_fmt (h : DE X W ε k e f) : DE X W ε .own (.FormattedValue e (-1) none pos) (fFmt f) := by
  obtain ⟨t, p, s⟩ := h.ex
  refine ⟨_, pe_fmt p, fun Z F H env σ fp Q r hq => s Z F H env σ fp _ r (Post.bind hq id id fun d e1 h1 F1 H1 fp1 v fr ev r1 rp ko => ?_)⟩
  cases d with
  | str y =>
    simp only at h1
    split at h1
    · rename_i hz
      obtain rfl : v = .str y := rp.1
      exact .inl ⟨y, rfl, hz, h1 F1 H1 fp1 _ [] ev r1 (.plain rfl) fun a ha => by cases ha⟩
    · exact h1.elim
  | int i =>
    simp only at h1
    split at h1
    · rename_i hz
      obtain rfl : v = .int i := rp.1
      exact .inr ⟨i, rfl, hz, h1 F1 H1 fp1 _ [] ev r1 (.plain rfl) fun a ha => by cases ha⟩
    · exact h1.elim
  | non => exact h1.elim
  | bl _ => exact h1.elim
  | ob _ => exact h1.elim
  | ty _ => exact h1.elim
  | scr _ => exact h1.elim
  | tscr _ _ => exact h1.elim
  | lam _ _ _ => exact h1.elim
  | node _ _ _ => exact h1.elim
inductive DJ (X : Cx) (W : WX) : List Expr → List FE → Prop where
  | nil : DJ X W [] []
  | cons {k : Kd} {e : Expr} {f : FE} {es : List Expr} {fs : List FE} (h : DE X W false k e f) (r : DJ X W es fs) : DJ X W (e :: es) (f :: fs)
def fJs : List FE → Str → FE
  | [], acc => fun env => .ok (.str acc) env
  | f :: fs, acc => fun env => (f env).bind fun d e => match d with
    | .str y => if (acc ++ y).length ≤ sizeLine then fJs fs (acc ++ y) e else .stuck
    | _ => .stuck
theorem dj_sim {K : PySem.W.Frag} (hX : K = X.K) (h : DJ X W es fs) : ∃ ts, PJ X es ts ∧ ∀ acc Z F H env σ fp (Q : Str → Hp → Prop), R K Z F H env σ fp →
    Post K W false Z F H env σ fp (fun d env' => ∀ F' H' fp' y, Ev false F H env fp F' H' env' fp' → R K Z F' H' env' σ fp' → d = .str y → Q y H') (fJs fs acc env) → tJs ts acc σ H Q := by
  subst hX
  induction h with
  | nil => exact ⟨[], .nil, fun acc Z F H env σ fp Q r hq => hq F H fp acc (Ev.refl (Z := Z) _ rfl) r rfl⟩
  | @cons k e f es fs h _ ih =>
    obtain ⟨t, p, s⟩ := h.ex
    obtain ⟨ts, ps, ss⟩ := ih
    refine ⟨t :: ts, .cons p ps, fun acc Z F H env σ fp Q r hq => s Z F H env σ fp _ r (Post.bind hq id id fun d e1 h1 F1 H1 fp1 v fr ev r1 rp ko => ?_)⟩
    cases d with
    | str y =>
      simp only at h1
      split at h1
      · rename_i hz
        obtain rfl : v = .str y := rp.1
        exact ⟨y, rfl, hz, ss (acc ++ y) Z F1 H1 e1 σ fp1 Q r1 (Post.imp (Post.seq (ε2 := false) (a := (0 : Nat)) ev h1) fun d e' g F' H' fp' y' ev' r' hd => g F' H' fp' y' (ev.trans ev') r' hd)⟩
      · exact h1.elim
    | int i => exact h1.elim
    | non => exact h1.elim
    | bl _ => exact h1.elim
    | ob _ => exact h1.elim
    | ty _ => exact h1.elim
    | scr _ => exact h1.elim
    | tscr _ _ => exact h1.elim
    | lam _ _ _ => exact h1.elim
    | node _ _ _ => exact h1.elim
theorem de_joined (h : DJ X W (v1 :: v2 :: es) fs) : DE X W false .own (.JoinedStr (v1 :: v2 :: es) pos) (fJs fs Str.empty) := by
  obtain ⟨ts, p, s⟩ := dj_sim rfl h
  refine ⟨_, pe_joined p, fun Z F H env σ fp Q r hq => s Str.empty Z F H env σ fp _ r (Post.imp hq fun d e' g F' H' fp' y ev r' hd => ?_)⟩
  subst hd
  exact g F' H' fp' _ [] ev r' (.plain rfl) fun a ha => by cases ha
end
end DL
namespace DL
open PySem PySem.Spec L2
section
variable {X : Cx} {kk : Nat} {f C : Addr} {fd : FuncData} {ps : List Str} {Fx : List D → Fo} {gG : List Value → List Value → List Value} {gV : List V → List V → List V} {cl : Str}
theorem takes_WF : Takes X WF := fun u s' ⟨a, B, sI, pins, σ, H, cls, d, e, I, nb, up, sky, na, os, ag, w⟩ => w.elim
theorem run_in1 {A : Around} {σ : L2.St} {pins : List (Addr × Obj)} {H : Hp} {s : Shared} {Q : VK} {us : List Value} {vs : List V} {sp : Sp} {n : Nat} (hfr : A.frames = X.A.frames) (FO : FnOk X.prog X.w X.K X.mg X.base (L2.CX X.prog X.w) kk f fd ps sp) (hr : Room kk A) (hb : KBn X.K fd ps n [] gG gV)
    (I : Inv X pins σ H s) (r : Vals vs us) (l1 : vs.length = n) (h : sp (gV vs []) H Q (fun _ _ _ => False)) : wpAny (model X.prog X.w) A (call (.ref f) us) (EP X pins σ Q) X.xe s := by
  have r2 := hb.rel r .nil
  have e0 : Env0 X.prog X.w X.K X.mg X.base A X.stack s H := by
    have e := I.env0
    exact ⟨by rw [hfr]; exact e.frames, e.mod, e.bs, e.bsz, e.funs, e.frf, e.hok, e.bare⟩
  have bt := hb.to s us [] I.kIn (r.length.symm.trans l1) rfl
  refine wpAny_call (codeAny_mono (FO.run A X.stack s H ⟨us, []⟩ (gG us []) (gV vs []) Q (fun _ _ _ => False) hr e0 bt r2 h) fun r s' hq => ?_)
  cases r with
  | error e => exact passAt (W := WF) takes_WF σ pins H s e s' I hq
  | ok fl =>
    cases fl with
    | ret u => exact I.after hq
    | next => exact False.elim hq
    | brk => exact False.elim hq
    | cont => exact False.elim hq
def rOwnLen (C : Addr) (sp : Sp) (gV : List V → List V → List V) : List V → Hp → VK → Prop := fun xs H Q => ∃ a dx fs, xs = [.ref a] ∧ H a = some (.ins C dx fs) ∧ sp (gV [.ref a] []) H (fun v H1 => ∃ n : Int, v = .int n ∧ (0 ≤ n ∧ n < 2 ^ 63) ∧ Q (.int n) H1) (fun _ _ _ => False)
theorem cr_lenOwn {sp : Sp} (hr : Room (kk + 1) X.A) (FO : FnOk X.prog X.w X.K X.mg X.base (L2.CX X.prog X.w) kk f fd ps sp) (hb : KBn X.K fd ps 1 [] gG gV) (hs : PySem.W.findIn X.K (.ref C) "__len__" = some (some (.ref f))) (hf : PySem.W.isFn X.K (.ref f) = true) : CallR X (.builtin "len") (rOwnLen C sp gV) := by
  intro pins s σ H xs us Q I r h
  obtain ⟨a, dx, fs, rfl, ha, hsp⟩ := h
  obtain ⟨u, rfl, rx⟩ := vals1 r
  obtain rfl : u = .ref a := rx
  obtain ⟨mA, J, _⟩ := ins_get I.hok ha
  obtain ⟨od, J, _⟩ := J.look
  obtain ⟨m, hF⟩ := I.fr
  refine PySem.W.len_K hF I.ok.mod.kin J hs hf (thn (run_in1 (A := X.A.in1) rfl FO hr.in1 hb I (.cons (show RelV (.ref a) (Value.ref a) from rfl) .nil) rfl hsp) fun v s1 ⟨x, H1, I1, rv, n, ex, hn, q⟩ => ?_)
  subst ex
  obtain ⟨t, rfl⟩ := rv
  exact ⟨hn, .int n, H1, I1.tok _, ⟨_, rfl⟩, q⟩
def rOwnRepr (C : Addr) (sp : Sp) (gV : List V → List V → List V) : List V → Hp → VK → Prop := fun xs H Q => ∃ a dx fs, xs = [.ref a] ∧ H a = some (.ins C dx fs) ∧ sp (gV [.ref a] []) H (fun v H1 => ∃ n : Str, v = .str n ∧ Q (.str n) H1) (fun _ _ _ => False)
theorem cr_reprOwn {sp : Sp} (hr : Room (kk + 1) X.A) (FO : FnOk X.prog X.w X.K X.mg X.base (L2.CX X.prog X.w) kk f fd ps sp) (hb : KBn X.K fd ps 1 [] gG gV) (hs : PySem.W.findIn X.K (.ref C) "__repr__" = some (some (.ref f))) (hf : PySem.W.isFn X.K (.ref f) = true) : CallR X (.builtin "repr") (rOwnRepr C sp gV) := by
  intro pins s σ H xs us Q I r h
  obtain ⟨a, dx, fs, rfl, ha, hsp⟩ := h
  obtain ⟨u, rfl, rx⟩ := vals1 r
  obtain rfl : u = .ref a := rx
  obtain ⟨mA, J, _⟩ := ins_get I.hok ha
  obtain ⟨od, J, _⟩ := J.look
  obtain ⟨m, hF⟩ := I.fr
  refine PySem.W.repr_K hr.in1.units0 hF I.ok.mod.kin J hs hf (thn (run_in1 (A := X.A.in1) rfl FO hr.in1 hb I (.cons (show RelV (.ref a) (Value.ref a) from rfl) .nil) rfl hsp) fun v s1 ⟨x, H1, I1, rv, n, ex, q⟩ => ?_)
  subst ex
  obtain ⟨t, rfl⟩ := rv
  exact ⟨.str n, H1, I1, ⟨_, rfl⟩, q⟩
def ownD (cl : Str) (Fx : List D → Fo) (g : D → Option D) : List D → Option D
  | [.node o (.ins c fs) xs] => if c = cl then (match Fx [.node o (.ins c fs) xs] with
    | .ret d [] => g d
    | _ => none) else none
  | _ => none
def lenR : D → Option D
  | .int n => if 0 ≤ n ∧ n < 2 ^ 63 then some (.int n) else none
  | _ => none
def strR : D → Option D
  | .str n => some (.str n)
  | _ => none
theorem own_core {K : PySem.W.Frag} {F H : Hp} {ds : List D} {vs : List V} {frs : List (List Addr)} {e : D} {g : D → Option D} {P : VK} (hgV : ∀ x, gV [x] [] = [x]) (hs : ∀ a u, F a = some u → Has H a u) (rep : RepA K F H ds vs frs) (h : ownD cl Fx g ds = some e)
    (hP : ∀ d F' H' v fr, Grow F H F' H' → Rep K F' H' d v fr → g d = some e → P v H') : ∃ a dx fs, vs = [.ref a] ∧ H a = some (.ins (He.ga K cl) dx fs) ∧ spD K [false] Fx (gV [.ref a] []) H P (fun _ _ _ => False) := by
  unfold ownD at h
  split at h
  · rename_i o c fs xs
    split at h
    · rename_i hc
      subst hc
      obtain ⟨v, f0, rfl, rfl, h1⟩ := rep.one
      have h1' := h1
      obtain ⟨a, u, us, fq, rfl, h2, h3, h4, h5⟩ := h1.node hs
      obtain ⟨hl, dx, rfl⟩ := h3
      refine ⟨a, dx, _, rfl, h2.ex rfl, ?_⟩
      rw [hgV]
      refine ⟨F, [_], [f0], hs, ⟨h1', trivial⟩, rfl, ⟨fun i j fi fj _ hk => ?_, fun i fi hk => ?_, fun i fi hk => ?_⟩, ?_⟩
      · cases i <;> simp at hk
      · cases i <;> simp at hk
      · cases i <;> simp at hk
      · split at h
        · rename_i d q
          rw [q]
          intro F' H' v fr nfs fe rp mu hf
          have noM : ∀ b, ¬ MutA [false] [f0] b := fun b ⟨i, f, hk, _⟩ => by cases i <;> simp at hk
          exact hP d F' H' v fr ⟨fun b o ho => fe.keep b o ho (noM b), fe.sub, fun b h1 h2 => (fe.new b h1 h2).resolve_right (noM b), fe.has, fe.nofz⟩ rp h
        · cases h
    · cases h
  · cases h
theorem ok_lenOwn {K : PySem.W.Frag} (hgV : ∀ x, gV [x] [] = [x]) : OpOk K (rOwnLen (He.ga K cl) (spD K [false] Fx) gV) (ownD cl Fx lenR) := by
  intro F H ds vs frs d Q hs rep e q
  refine own_core hgV hs rep e fun d' F' H' v fr g rp hg => ?_
  cases d' <;> simp only [lenR, reduceCtorEq] at hg
  rename_i n
  split at hg
  · rename_i hn
    cases hg
    obtain rfl : v = .int n := rp.1
    exact ⟨n, rfl, hn, q F' H' _ [] g (.plain rfl) fun a ha => by cases ha⟩
  · cases hg
theorem ok_reprOwn {K : PySem.W.Frag} (hgV : ∀ x, gV [x] [] = [x]) : OpOk K (rOwnRepr (He.ga K cl) (spD K [false] Fx) gV) (ownD cl Fx strR) := by
  intro F H ds vs frs d Q hs rep e q
  refine own_core hgV hs rep e fun d' F' H' v fr g rp hg => ?_
  cases d' <;> simp only [strR, reduceCtorEq, Option.some.injEq] at hg
  rename_i n
  subst hg
  obtain rfl : v = .str n := rp.1
  exact ⟨n, rfl, q F' H' _ [] g (.plain rfl) fun a ha => by cases ha⟩
end
end DL
namespace DL
open PySem PySem.Spec L2 PyProof.Rows
section
variable {prog : Program} {w : World} {A : Around} {E : Value → Shared → Prop} {s : Shared}
theorem tupIter_at {h h' : Heap} {it t : Addr} {i : Nat} (x : IsTupIter h it t i) (e : ∀ o, h.get? it = some o → h'.get? it = some o) : IsTupIter h' it t i := by
  obtain ⟨o, h1, h2, h3⟩ := x
  exact ⟨o, e o h1, h2, h3⟩
theorem tup_at {h h' : Heap} {t : Addr} {items : Array Value} (x : IsTup h t items) (e : ∀ o, h.get? t = some o → h'.get? t = some o) : IsTup h' t items := by
  obtain ⟨o, h1, h2, n, h3⟩ := x
  exact ⟨o, e o h1, h2, n, h3⟩
theorem walks_tup (hh : A.handled = none) (it t : Addr) (items : Array Value) (i0 : Nat) (hi : i0 ≤ items.size) (hne : t ≠ it) :
    WalksS prog w A it [it, t] [it] (fun a b => a = b) (items.size - i0) (fun j v => items[i0 + j]? = some v) (fun j s => IsTupIter s.heap it t (i0 + j) ∧ IsTup s.heap t items) where
  sub := by simp
  grefl := fun _ => rfl
  gtrans := fun a b c h1 h2 => h1.trans h2
  frame := fun i s h' tk st _ k => ⟨tupIter_at st.1 fun o e => k it (by simp) o e, tup_at st.2 fun o e => k t (by simp) o e⟩
  item := fun i s Q E hlt st hQ => by
    have hx : i0 + i < items.size := by omega
    refine next_tuple_item st.1 st.2 (Array.getElem?_eq_getElem hx) fun h' hit' sb => ?_
    exact hQ _ _ (Array.getElem?_eq_getElem hx) ⟨hit', tup_at st.2 fun o e => (sb.2 t hne).trans e⟩ ⟨fun b o hb e => (sb.2 b (by simpa using hb)).trans e, rfl, rfl, rfl, Nat.le_refl _⟩
  done := fun s Q E st hQ => by
    refine next_tuple_end hh st.1 st.2 (Array.getElem?_eq_none (by omega)) fun h' eb => ?_
    exact hQ _ ⟨fun b o hb e => eb b o (by simpa using hb) e, rfl, rfl, rfl, Nat.le_refl _⟩
  self := fun i s Q E st hQ => wpAny_pyIter_tupleiter (by
    obtain ⟨o, h1, h2, h3⟩ := st.1
    exact ⟨o, h1, h2, h3⟩) hQ
theorem unpack_star {t : Addr} {items : Array Value} {i0 : Nat} {Q : List Value → Shared → Prop} (hh : A.handled = none) (ht : IsTup s.heap t items) (hi : i0 ≤ items.size) (hsz : items.size ≤ sizeLine)
    (hQ : ∀ (h1 : Heap) (tk : Nat), (∀ b o, s.heap.get? b = some o → h1.get? b = some o) → Q (items.toList.take i0 ++ [.ref h1.objs.size]) { s with heap := h1.push { cls := .type "list", data := .seq (items.toList.drop i0).toArray }, toks := tk }) :
    wpAny (model prog w) A (unpackItems (.ref t) (i0 + 1) (some i0)) Q E s := by
  have hlt : t ≠ s.heap.objs.size := by obtain ⟨o, ho, _⟩ := ht; exact Nat.ne_of_lt (Heap.lt_size ho)
  unfold unpackItems
  refine wpAny_bind ?_
  · unfold notIterableAtAll
    refine wpAny_bind (wpAny_specialOf ht.typeIs slot_tuple_iter.lookup ?_)
    refine wpAny_pure ?_
    simp only [Bool.false_eq_true, if_false]
    refine wpAny_bind (wpAny_holding (iter_tuple ht ?_))
    refine wpAny_bind (wpAny_holding (draw_tuple hlt i0 0 _ _ ⟨_, Heap.get?_push_size _ rfl, rfl, rfl⟩ (ht.push _) (by omega) fun h₁ hit₁ hs₁ => ?_))
    rw [List.drop_zero, if_neg (by rw [List.length_take, Array.length_toList]; omega)]
    have ht₁ : IsTup h₁ t items := (ht.push _).extBut hs₁.extBut hlt
    rw [Nat.zero_add] at hit₁
    have hI : s.heap.objs.size < h₁.objs.size := by
      obtain ⟨o, e, _⟩ := hit₁
      exact Heap.lt_size e
    have hT : t < h₁.objs.size := by
      obtain ⟨o, e, _⟩ := ht₁
      exact Heap.lt_size e
    refine wpAny_bind (wpAny_holding (wpAny_collect_iter (T := "tuple_iterator") (.inr (.inr (.inr rfl))) (walks_tup (A := A.in1) hh s.heap.objs.size t items i0 hi hlt) (fun i s st => by
      obtain ⟨o, h1, h2, h3⟩ := st.1
      exact ⟨o, h1, h2⟩) ⟨hit₁, ht₁⟩ (fun b hb => by
        rcases List.mem_cons.mp hb with rfl | hb
        · exact hI
        · rcases List.mem_cons.mp hb with rfl | hb
          · exact hT
          · cases hb) (by simp) (fun s' acc mv io => ?_) (by omega)))
    obtain ⟨hp, g, dr, tk, os⟩ := s'
    obtain ⟨m1, m2, m3, m4, m5⟩ := mv
    simp only at m1 m2 m3 m4 m5
    subst m2 m3 m4
    have hacc : acc.toList = items.toList.drop i0 := by
      apply List.ext_getElem?
      intro j
      rw [Array.getElem?_toList, List.getElem?_drop, Array.getElem?_toList]
      by_cases hj : j < acc.size
      · rw [Array.getElem?_eq_getElem hj]
        exact (io.2 j _ (Array.getElem?_eq_getElem hj)).symm
      · rw [Array.getElem?_eq_none (by omega), Array.getElem?_eq_none (by have := io.1; omega)]
    rw [hacc, if_neg (by omega)]
    have hn : (items.toList.drop i0).length - (i0 + 1 - 1 - i0) = (items.toList.drop i0).length := by omega
    rw [hn, List.take_length, List.drop_length]
    refine wpAny_bind (wpAny_newList ?_ (by rw [List.length_drop, Array.length_toList]; omega))
    refine wpAny_pure ?_
    rw [List.append_nil]
    exact hQ hp tk fun b o e => m1 b o (by
      intro z
      have z' : b = s.heap.objs.size := by simpa using z
      rw [z'] at e
      exact absurd (Heap.lt_size e) (Nat.lt_irrefl _)) (by
        have hb : b ≠ s.heap.objs.size := Nat.ne_of_lt (Heap.lt_size e)
        exact (hs₁.2 b hb).trans (Heap.get?_push_of_some _ e))
end
section
variable {X : Cx} {es : List Expr} {e e' : Expr} {t : TG} {u : TGs} {k : Nat} {pos : Pos}
def gStar (K : PySem.W.Frag) (n : Nat) (t : TGs) : TG := fun v σ H Q => ∃ a xs, v = .ref a ∧ SqT K H a xs ∧ n ≤ xs.length ∧ ∀ l, H l = none → t (xs.take n ++ [.ref l]) σ (upd H l (.lst (xs.drop n))) Q
theorem pgs_cons' (h1 : PG X e t) (h2 : PGs X es u) (hs : (assignEach (e' :: es) X.env).map (·.2) = assign e X.env :: (assignEach es X.env).map (·.2)) : PGs X (e' :: es) (gCons t u) := by
  refine ⟨fun pins s σ H vs us Q I r h => ?_⟩
  obtain ⟨v, vr, e1, h⟩ := h
  subst e1
  cases r with
  | cons r rr =>
    rw [hs]
    refine assignInOrder_cons (thn (h1.run pins s σ H _ _ _ I r h) fun _ s1 ⟨σ1, H1, I1, q1⟩ => ?_)
    exact h2.run pins s1 σ1 H1 _ _ Q I1 rr q1
theorem vals_take {xs : List V} {us : List Value} (h : Vals xs us) (n : Nat) : Vals (xs.take n) (us.take n) := by
  induction h generalizing n with
  | nil => simp; exact .nil
  | cons r t ih =>
    cases n with
    | zero => exact .nil
    | succ n => exact .cons r (ih n)
theorem vals_drop {xs : List V} {us : List Value} (h : Vals xs us) (n : Nat) : Vals (xs.drop n) (us.drop n) := by
  induction h generalizing n with
  | nil => simp; exact .nil
  | cons r t ih =>
    cases n with
    | zero => exact .cons r t
    | succ n => exact ih n
theorem pg_star {ts : TGs} {n : Nat} (hc : X.calm = true) (h : PGs X es ts) (hn : (assignEach es X.env).length = n + 1) (hst : (assignEach es X.env).findIdx? (·.1) = some n) : PG X (.Tuple es k pos) (gStar X.K n ts) := by
  refine ⟨fun pins s σ H v u Q I r hw => ?_⟩
  obtain ⟨a, xs, e1, hq, hl, hw⟩ := hw
  subst e1
  cases r
  obtain ⟨its, rv, ht, hz⟩ := I.tuple hq
  have hlen := rv.length
  rw [assign_Tuple]
  refine wpAny_bind (wpAny_standAt ?_)
  unfold unpack
  rw [hn, hst]
  refine wpAny_bind (wpAny_holding (unpack_star (I.ok.hd hc) ht (by simp; omega) (by simp; omega) fun h1 tk hk => ?_))
  have I1 : Inv X pins σ H { s with heap := h1, toks := tk } := I.kept hk
  have I2 := I1.lnew (t' := tk) (vals_drop rv n) (by rw [List.length_drop]; omega)
  refine h.run pins _ σ _ _ _ Q I2 ?_ (hw _ I1.fresh)
  exact (vals_take rv n).append (.cons rfl .nil)
end
def gStarD (n : Nat) (gs : Md → List D → Evn → Option Evn) : Md → D → Evn → Option Evn := fun md d env => match d with
  | .node _ .tup xs => if n ≤ xs.length ∧ frzL xs = true then gs md (xs.take n ++ [.node false .lst (xs.drop n)]) env else none
  | _ => none
section
variable {X : Cx} {ms : List Nat} {es : List Expr} {tg : Expr} {k : Nat} {pos spos : Pos} {g : Md → D → Evn → Option Evn} {gs : Md → List D → Evn → Option Evn}
theorem dgs_star1 (h1 : DG X ms tg g) (hs : (assignEach [.Starred tg spos] X.env).map (·.2) = assign tg X.env :: (assignEach [] X.env).map (·.2) := by rfl) : DGs X ms [.Starred tg spos] (gsCons g gsNil) := by
  obtain ⟨t1, p1, s1⟩ := h1.ex
  refine ⟨_, pgs_cons' p1 pgs_nil hs, ?_⟩
  have := gssim_cons (b2 := true) s1 (gssim_nil (ms := ms))
  exact this
theorem RepL.take {K : PySem.W.Frag} {F H : Hp} : ∀ {xs : List D} {vs : List V} (n : Nat), RepL K F H xs vs [] → RepL K F H (xs.take n) (vs.take n) [] ∧ RepL K F H (xs.drop n) (vs.drop n) []
  | [], vs, n, h => by
    obtain ⟨rfl, _⟩ := h.nil_inv
    simp
    exact ⟨rfl, rfl⟩
  | x :: xs, vs, 0, h => by
    refine ⟨⟨rfl, rfl⟩, ?_⟩
    simpa using h
  | x :: xs, vs, n + 1, h => by
    obtain ⟨v, us, f1, f2, rfl, e, a1, a2, a3⟩ := h.cons_inv
    obtain ⟨rfl, rfl⟩ := List.append_eq_nil_iff.mp e.symm
    obtain ⟨t1, t2⟩ := RepL.take n a3
    exact ⟨RepL.mk (f1 := []) (f2 := []) (fun a z => by cases z) a2 t1, t2⟩
theorem gsim_star {K : PySem.W.Frag} {b : Bool} {n : Nat} {t : TGs} (s : GsSim K b ms t gs) : GSim K b ms (gStar K n t) (gStarD n gs) := by
  intro Z F0 H0 env0 fp0 F H env σ fp v d fr md Q hm e0 r rep vm ⟨env', hg, hq⟩
  unfold gStarD at hg
  split at hg
  · rename_i o xs
    split at hg
    · rename_i hc
      obtain ⟨a, vs, fq, rfl, ha, rl, sb⟩ := rep.tup r.sub
      have z := RepL.frz_nil _ _ _ hc.2 rl
      subst z
      refine ⟨a, vs, rfl, .inl (.of ha), by rw [rl.len]; exact hc.1, fun l hl => ?_⟩
      obtain ⟨t1, t2⟩ := RepL.take n rl
      obtain ⟨g, rn⟩ := new_frz (s := .lst) r.sub t2 hl rfl
      have rl2 : RepL K (upd F l (.lst (vs.drop n))) (upd H l (.lst (vs.drop n))) (xs.take n ++ [.node false .lst (xs.drop n)]) (vs.take n ++ [.ref l]) [] := (t1.grow g).app (.one rn) (fun a ha => by cases ha)
      have r1 := r.grow g
      have vm1 : VMo H0 env0 fp0 Z (upd F l (.lst (vs.drop n))) (upd H l (.lst (vs.drop n))) env fp [] md := by
        cases md with
        | own => exact fun b hb => by cases hb
        | bor m =>
          cases m with
          | none => exact fun b hb => by cases hb
          | some j => exact ⟨vm.1, fun b hb => by cases hb⟩
      have back : ∀ b, upd H l (.lst (vs.drop n)) b = none → H b = none := fun b z => by
        cases q : H b with
        | none => rfl
        | some o => rw [g.keep b o q] at z; cases z
      exact s Z F0 H0 env0 fp0 _ _ env σ fp _ _ [] md Q hm ((e0.trans (ε2 := true) g.ev).mono (fun _ => rfl) fun z => by cases z) r1 rl2 vm1 ⟨env', hg, fun σ' F' H' fp' gr ev r' sa kp => hq σ' F' H' fp' (fun hb => g.trans (gr hb)) ev r' ⟨fun b hb => (sa.1 b hb).imp id fun z => .inr (back b (z.resolve_left (by simp))), sa.2⟩
        ⟨fun b o ho hn hf => kp.keep b o (g.keep b o ho) hn (by simp), fun b hb => kp.dom b (g.dom hb), fun b o u ho => g.nofz b o u (kp.nofz b o u ho), fun j hj => ⟨(kp.bor j hj).1, fun b hb o ho => (kp.bor j hj).2 b hb o (g.keep b o ho)⟩, fun b u hb => kp.sub b u (g.sub b u hb), fun b h1 h2 => by
          cases q : upd F l (.lst (vs.drop n)) b with
          | none => exact back b (kp.new b q h2)
          | some u => exact g.new b h1 (by rw [q]; exact fun z => by cases z)⟩⟩
    · cases hg
  · cases hg
theorem dg_star {n : Nat} {k' : Nat} (hc : X.calm = true) (h : DGs X ms es gs) (hn : (assignEach es X.env).length = n + 1 := by rfl) (hst : (assignEach es X.env).findIdx? (·.1) = some n := by rfl) : DG X ms (.Tuple es k' pos) (gStarD n gs) := by
  obtain ⟨t, p, s⟩ := h.ex
  exact ⟨_, pg_star hc p hn hst, gsim_star s⟩
end
end DL
namespace DL
open PySem PySem.Spec L2
section
variable {P : Program} {w : World} {K : PySem.W.Frag} {mg : Str → Option Value} {base : Heap} {x qual : Str} {params : Arguments} {body : List Stmt} {scope : Scope} {dvs : List V} {kws : List (Str × V)} {f : Addr} {fd : FuncData}
structure CCx (k : Nat) (X : Cx) (W : WX) : Prop where
  tk : Takes X W
  rm : Room k X.A
structure BodyCx (K : PySem.W.Frag) (k : Nat) (X : Cx) (W : WX) : Prop extends CCx k X W where
  hp : PassesOwn (model X.prog X.w) X.A X.env X.xe
theorem def_ok {N ps : List Str} {k : Nat} {kinds : List Bool} {fb : FS} (F : FunD K x qual params body scope dvs kws f fd) (S : FnScope N ps scope) (hl : kinds.length = ps.length)
    (hb : ∀ (cdv : Value) (A : Around) (outer : List Env) (s : Shared) (H : Hp) (E : XK) (W : WX), BodyCx K k (cxOf (L2.CX P w) P w K mg base N qual scope f cdv A outer s H E) W → DSs (cxOf (L2.CX P w) P w K mg base N qual scope f cdv A outer s H E) W (mutIx kinds 0) body fb) :
    FnOk P w K mg base (L2.CX P w) (k + 1) f fd ps (spD K kinds (runF kinds N.length fb)) := by
  have hpl : ps.length ≤ N.length := by
    have := congrArg List.length S.pre
    rw [List.length_take] at this
    omega
  refine F.ok S (fun vs H Q E ⟨F0, ds, frs, hs, rep, hk, _⟩ => by rw [rep.lens.1, ← hk, hl]) fun cdv A outer s H vs Q E hr hsp => ?_
  have tk : Takes (cxOf (L2.CX P w) P w K mg base N qual scope f cdv A outer s H E) (fun cls d _ H => E cls d H) := takes_of rfl rfl rfl rfl
  have hp : PassesOwn (model P w) (cxOf (L2.CX P w) P w K mg base N qual scope f cdv A outer s H E).A (cxOf (L2.CX P w) P w K mg base N qual scope f cdv A outer s H E).env (cxOf (L2.CX P w) P w K mg base N qual scope f cdv A outer s H E).xe := passes_of rfl
  obtain ⟨t, p, sm⟩ := (hb cdv A outer s H E (fun cls d _ H => E cls d H) ⟨⟨tk, hr⟩, hp⟩).ex
  exact ⟨t, p, sim_body (E := E) sm (fun _ _ _ _ h => h) (by omega) hsp⟩
end
end DL
namespace DL
open PySem PySem.Spec L2
structure FC (fa : List He.Fa) (K : PySem.W.Frag) (mg : Str → Option Value) : Prop where
  ok : ∀ (i : Nat) (f : He.Fa), fa[i]? = some f → f.ok K = true
  gl : ∀ x, (He.Fa.glo x).ok K = true → mg x = some (.ref (He.ga K x))
  fr : ∀ x, (He.Fa.free x).ok K = true → mg x = none
  int : ∀ x i, (He.Fa.int x i).ok K = true → ∃ t, mg x = some (.int i t)
  str : ∀ x z, (He.Fa.str x z).ok K = true → ∃ t, mg x = some (.str z t)
section
variable {fa : List He.Fa} {K : PySem.W.Frag} {mg : Str → Option Value}
theorem FC.gl' (c : FC fa K mg) (i : Nat) {x : Str} (h : fa[i]? = some (.glo x) := by rfl) : mg x = some (.ref (He.ga K x)) := c.gl x (c.ok i _ h)
theorem FC.fr' (c : FC fa K mg) (i : Nat) {x : Str} (h : fa[i]? = some (.free x) := by rfl) : mg x = none := c.fr x (c.ok i _ h)
theorem FC.int' (c : FC fa K mg) (i : Nat) {x : Str} {n : Int} (h : fa[i]? = some (.int x n) := by rfl) : ∃ t, mg x = some (.int n t) := c.int x n (c.ok i _ h)
theorem FC.str' (c : FC fa K mg) (i : Nat) {x z : Str} (h : fa[i]? = some (.str x z) := by rfl) : ∃ t, mg x = some (.str z t) := c.str x z (c.ok i _ h)
theorem FC.f (c : FC fa K mg) (i : Nat) {f : He.Fa} (h : fa[i]? = some f := by rfl) : f.ok K = true := c.ok i f h
end
section
variable {K : PySem.W.Frag} {x qual : Str} {params : Arguments} {body : List Stmt} {scope : Scope} {dvs : List V} {kws : List (Str × V)} {f : Addr} {fd : FuncData} {ps : List Str} {n : Nat}
structure BOk (K : PySem.W.Frag) (fd : FuncData) (ps : List Str) (n : Nat) (ks : List Str) (ar : List Ar) : Prop where
  ex : ∃ gG gV, KBn K fd ps n ks gG gV ∧ ∀ vs zs : List V, vs.length = n → zs.length = ks.length → gV vs zs = arV ar (vs ++ zs)
def arAll : Nat → Nat → List Ar
  | _, 0 => []
  | i, n + 1 => .arg i :: arAll (i + 1) n
theorem arV_all : ∀ (n i : Nat) (l : List V), l.length = i + n → arV (arAll i n) l = l.drop i
  | 0, i, l, h => by rw [List.drop_eq_nil_of_le (by omega)]; rfl
  | n + 1, i, l, h => by
    rw [List.drop_eq_getElem_cons (by omega)]
    show l.getD i .non :: arV (arAll (i + 1) n) l = _
    rw [arV_all n (i + 1) l (by omega), List.getD_eq_getElem?_getD, List.getElem?_eq_getElem (by omega)]
    rfl
theorem arV_app : ∀ (ar : List Ar) (ar2 : List Ar) (l : List V), arV (ar ++ ar2) l = arV ar l ++ arV ar2 l
  | [], _, _ => rfl
  | .arg i :: r, ar2, l => by show _ :: arV (r ++ ar2) l = _; rw [arV_app r]; rfl
  | .dfl d :: r, ar2, l => by show _ :: arV (r ++ ar2) l = _; rw [arV_app r]; rfl
theorem arV_dfl (l : List V) : ∀ ds : List D, (∀ d ∈ ds, (plainV d).isSome = true) → arV (ds.map .dfl) l = ds.map fun d => (plainV d).getD .non
  | [], _ => rfl
  | d :: ds, h => by
    show _ :: arV (ds.map .dfl) l = _
    rw [arV_dfl l ds fun e he => h e (List.mem_cons_of_mem _ he)]
    rfl
theorem BOk.of {ds : List D} (hb : ∃ us, Vals (ds.map fun d => (plainV d).getD .non) us ∧ Binds K fd ps us) (hn : n + ds.length = ps.length) (hp : ∀ d ∈ ds, (plainV d).isSome = true) : BOk K fd ps n [] (arAll 0 n ++ ds.map .dfl) := by
  obtain ⟨us, r, b⟩ := hb
  have hl : us.length = ds.length := by rw [← r.length, List.length_map]
  refine ⟨fun xs _ => xs ++ us, fun vs _ => vs ++ (ds.map fun d => (plainV d).getD .non), ⟨fun s xs ws X h1 h2 => ?_, fun r1 _ => r1.append r⟩, fun vs zs h1 h2 => ?_⟩
  · have hw : ws = [] := List.length_eq_zero_iff.mp (by simpa using h2)
    subst hw
    have q := b s xs X (by rw [List.length_append, h1, hl]; exact hn)
    simpa using q
  · have hz : zs = [] := List.length_eq_zero_iff.mp (by simpa using h2)
    subst hz
    rw [List.append_nil, arV_app, arV_all n 0 vs (by omega), arV_dfl vs ds hp, List.drop_zero]
theorem BOk.all (F : FunD K x qual params body scope [] kws f fd) (h : ∀ (kV doc pm : Value) (an : Option Addr) (cdv ct : Value) (us : List Value), us.length = ps.length → bindArgs (PySem.W.fnOf x qual params body scope .none kV doc pm an cdv ct) ⟨us, []⟩ = pure (ps.zip us)) :
    BOk K fd ps ps.length [] (arAll 0 ps.length) := by
  have := BOk.of (n := ps.length) (ds := []) ⟨[], .nil, F.bindsN h⟩ rfl (fun d hd => by cases hd)
  simpa using this
end
section
variable {X : Cx} {K : PySem.W.Frag} {W : WX} {ε1 ε2 : Bool} {k1 k2 : Kd} {a b : Expr} {fa fb : FE} {pos : Pos}
def rInD : R2 := fun y x H Q => ∃ a o, x = .ref a ∧ DGet H a y o ∧ Q (.bl o.isSome) H
def rNotInD : R2 := fun y x H Q => ∃ a o, x = .ref a ∧ DGet H a y o ∧ Q (.bl (!o.isSome)) H
theorem op_inD (hu : X.A.units + 1 < cLine) : OpR X (compareOp .In) rInD := by
  intro pins s σ H x y v u Q I rx ry ⟨a, o, ex, g, q⟩
  subst ex
  obtain rfl : u = Value.ref a := ry
  exact d_in hu I g rx fun s' I' => ⟨.bl o.isSome, H, I', rfl, q⟩
theorem op_notInD (hu : X.A.units + 1 < cLine) : OpR X (compareOp .NotIn) rNotInD := by
  intro pins s σ H x y v u Q I rx ry ⟨a, o, ex, g, q⟩
  subst ex
  obtain rfl : u = Value.ref a := ry
  exact d_notIn hu I g rx fun s' I' => ⟨.bl (!o.isSome), H, I', rfl, q⟩
def rInS : R2 := fun x y H Q => ∃ (c : Nat) (z : Str), x = .str ⟨#[c]⟩ ∧ y = .str z ∧ Q (.bl (decide (c ∈ z.cps.toList))) H
def oInAny : List D → Option D := fun ds => match ds with
  | [_, .node _ (.dic _) _] => oDin ds
  | [_, .node _ (.dit _) _] => oDin ds
  | [_, .str _] => oInS ds
  | _ => oIn ds
def oNotInAny : List D → Option D := fun ds => match ds with
  | [_, .node _ (.dic _) _] => oDnot ds
  | [_, .node _ (.dit _) _] => oDnot ds
  | _ => oNotIn ds
theorem l2_imp {r1 r2 : R2} {vs : List V} {H : Hp} {Q : VK} (h : ∀ x y, r1 x y H Q → r2 x y H Q) (x : l2 r1 vs H Q) : l2 r2 vs H Q := by
  match vs, x with
  | [x, y], z => exact h x y z
theorem ok_inAny : OpOk K (l2 fun x y H Q => rIn K false x y H Q ∨ (rInD x y H Q ∨ rInS x y H Q)) oInAny := by
  intro F H ds vs frs d Q hs rep e q
  unfold oInAny at e
  split at e
  · exact l2_imp (fun x y h => .inr (.inl h)) (ok_din F H _ vs frs d Q hs rep e q)
  · exact l2_imp (fun x y h => .inr (.inl h)) (ok_din F H _ vs frs d Q hs rep e q)
  · exact l2_imp (fun x y h => .inr (.inr h)) (ok_inS F H _ vs frs d Q hs rep e q)
  · exact l2_imp (fun x y h => .inl h) (ok_in F H _ vs frs d Q hs rep e q)
theorem ok_notInAny : OpOk K (l2 fun x y H Q => rIn K true x y H Q ∨ rNotInD x y H Q) oNotInAny := by
  intro F H ds vs frs d Q hs rep e q
  unfold oNotInAny at e
  split at e
  · exact l2_imp (fun x y h => .inr h) (ok_dnot F H _ vs frs d Q hs rep e q)
  · exact l2_imp (fun x y h => .inr h) (ok_dnot F H _ vs frs d Q hs rep e q)
  · exact l2_imp (fun x y h => .inl h) (ok_notIn F H _ vs frs d Q hs rep e q)
theorem op_inAny (hu : X.A.units + 1 < cLine) : OpR X (compareOp .In) (fun x y H Q => rIn X.K false x y H Q ∨ (rInD x y H Q ∨ rInS x y H Q)) := fun pins s σ H x y v u Q I rx ry h => by
  rcases h with h | h | h
  · exact op_in_seq pins s σ H x y v u Q I rx ry h
  · exact op_inD hu pins s σ H x y v u Q I rx ry h
  · exact op_in_sign pins s σ H x y v u Q I rx ry h
theorem op_notInAny (hu : X.A.units + 1 < cLine) : OpR X (compareOp .NotIn) (fun x y H Q => rIn X.K true x y H Q ∨ rNotInD x y H Q) := fun pins s σ H x y v u Q I rx ry h => by
  rcases h with h | h
  · exact op_notIn_seq pins s σ H x y v u Q I rx ry h
  · exact op_notInD hu pins s σ H x y v u Q I rx ry h
end
end DL
namespace DL
open PySem PySem.Spec L2
def shA : Ar → Ar
  | .arg i => .arg (i + 1)
  | .dfl d => .dfl d
theorem arV_shift (x : V) (l : List V) : ∀ ar : List Ar, arV (ar.map shA) (x :: l) = arV ar l
  | [] => rfl
  | .arg i :: r => by
    show (x :: l).getD (i + 1) .non :: arV (r.map shA) (x :: l) = l.getD i .non :: arV r l
    rw [arV_shift x l r, List.getD_cons_succ]
  | .dfl d :: r => by
    show _ :: arV (r.map shA) (x :: l) = _ :: arV r l
    rw [arV_shift x l r]
section
variable {X : Cx} {W : WX} {ε ε1 ε2 : Bool} {k : Kd} {e o : Expr} {es : List Expr} {kws : List Keyword} {ks : List Str} {cs cs1 cs2 : List CK} {f : FE} {fa g : FA} {p pos apos kpos : Pos} {x m : Str} {n kk kc : Nat}
variable {kinds : List Bool} {ar : List Ar} {Fx : List D → Fo} {fd : FuncData} {ps : List Str} {fA C : Addr}
theorem dc (c : CCx kc X W) (FO : FnOk X.prog X.w X.K X.mg X.base (L2.CX X.prog X.w) kk fA fd ps (spD X.K kinds Fx)) (hm : X.mg x = some (.ref fA)) (hk : PySem.W.keepIn X.K (.ref fA) = true) (B : BOk X.K fd ps n ks ar) (ha : DAll X W ε n ks cs es kws fa)
    (hle : kk ≤ kc := by first | decide | exact Nat.le_refl _ | omega) (hl : cs.length = n + ks.length := by rfl) (nd : (jsOf cs kinds ar).Nodup := by decide) (hg : Gl X x := by rfl) (hdb : (x == ("__debug__" : Str)) = false := by decide) :
    DE X W (ε || !(jsOf cs kinds ar).isEmpty) .own (.Call (.Name x p) es kws pos) (fCall Fx kinds ar cs fa) := by
  obtain ⟨gG, gV, hb, hv⟩ := B.ex
  exact de_call FO (c.rm.mono hle) hm hk hb c.tk ha hv hl nd hg hdb
theorem dm {pl : Sem Bool} (cl : Str) (c : CCx kc X W) (he : DE X W ε1 k o f) (hC : (He.Fa.cls cl).ok X.K = true) (hM : (He.Fa.meth cl m).ok X.K = true) (FO : FnOk X.prog X.w X.K X.mg X.base (L2.CX X.prog X.w) kk (He.ma X.K (He.ga X.K cl) m) fd ps (spD X.K kinds Fx)) (B : BOk X.K fd ps (n + 1) ks ar) (ha : DAll X W ε2 n ks cs es kws fa)
    (hle : kk ≤ kc := by first | decide | exact Nat.le_refl _ | omega) (hp : ε2 = true → ∀ j, k ≠ .bor j := by first | exact fun h => (nomatch h) | exact fun _ j h => (nomatch h)) (hl : (CK.val k :: cs).length = n + 1 + ks.length := by rfl) (nd : (jsOf (CK.val k :: cs) kinds ar).Nodup := by decide)
    (ht : eval (.Call (.Attribute o m apos) es kws pos) X.env = (do
      let ov ← eval o X.env
      standAt apos.atName
      let (f, first) ← holding [ov] (getMethod ov m pl)
      callWith pos f first (backTo pos (starEach es X.env)) (backToKw pos (keywordEach kws X.env))) := by rfl) :
    DE X W (ε1 || ε2 || !(jsOf (CK.val k :: cs) kinds ar).isEmpty) .own (.Call (.Attribute o m apos) es kws pos) (fCall Fx kinds ar (.val k :: cs) (fRcv cl m f fa)) := by
  obtain ⟨gG, gV, hb, hv⟩ := B.ex
  exact de_mth he (He.cls_ok hC) (He.meth_ok hM) FO (c.rm.mono hle) hb c.tk ha hv hp hl nd ht
theorem dk (cl : Str) (c : CCx kc X W) (MK : (He.Fa.mkr cl).ok X.K = true) (FO : FnOk X.prog X.w X.K X.mg X.base (L2.CX X.prog X.w) kk (He.ma X.K (He.ga X.K cl) "__init__") fd ps (spD X.K (true :: kinds) Fx)) (hm : X.mg x = some (.ref (He.ga X.K cl))) (B : BOk X.K fd ps (n + 1) ks (.arg 0 :: ar.map shA)) (ha : DAll X W ε n ks cs es kws fa)
    (hle : kk + 1 ≤ kc := by first | decide | exact Nat.le_refl _ | omega) (hl : cs.length = n + ks.length := by rfl) (nd : (jsOf cs kinds ar).Nodup := by decide) (hg : Gl X x := by rfl) (hdb : (x == ("__debug__" : Str)) = false := by decide) :
    DE X W (ε || !(jsOf cs kinds ar).isEmpty) .own (.Call (.Name x p) es kws pos) (fMk cl Fx kinds ar cs fa) := by
  obtain ⟨gG, gV, hb, hv⟩ := B.ex
  refine de_make cl (He.mkr_ok MK) FO (c.rm.mono hle) hm hb c.tk ha (fun x vs zs h1 h2 => ?_) hl nd hg hdb
  rw [hv (x :: vs) zs (by rw [List.length_cons, h1]) h2]
  show (x :: (vs ++ zs)).getD 0 .non :: arV (ar.map shA) (x :: (vs ++ zs)) = _
  rw [arV_shift]
  rfl
end
end DL
namespace DL
open PySem PySem.Spec L2
section
variable {X : Cx} {W : WX} {ε ε1 ε2 : Bool} {k : Kd} {ks : List Kd} {e : Expr} {es : List Expr} {keys : List (Option Expr)} {f : FE} {fa : FA} {pos : Pos} {xs : List Str}
def iRngD (rg : List D → Option (List D)) (fa : FA) : Evn → Rs (Md × List D × Bool) := fun env => (fa env).bind fun ds e1 => match rg ds with
  | some xs => .ok (.own, xs, false) e1
  | none => .stuck
theorem di_rng1 {tg a : Expr} {p : Pos} (hgl : Gl X "range") (hmg : X.mg "range" = none) (ha : DA X W ε ks [a] fa) (hs : starEach [a] X.env = [(false, eval a X.env)] := by rfl) : DI X W ε tg (.Call (.Name "range" p) [a] [] pos) (iRngD rng1D fa) := by
  obtain ⟨t1, p1, s1⟩ := ha.ex
  refine ⟨_, pi_range1 hgl hmg p1 hs, fun Z F H env σ fp Rq r h => s1 Z F H env σ fp _ r (Post.bind h id id fun ds e1 h1 F1 H1 fp1 vs frs ev r1 rep ko => ?_)⟩
  cases q : rng1D ds with
  | none => rw [q] at h1; exact h1.elim
  | some xs =>
    rw [q] at h1
    unfold rng1D at q
    split at q
    · split at q
      · rename_i j hj
        cases q
        obtain ⟨v, ws, f, fs, rfl, rfl, h2, h3⟩ := rep.inv
        obtain ⟨rfl, rfl⟩ := h3.inv0
        obtain rfl : v = .int j := h2.1
        exact ⟨j, rfl, hj.1, hj.2, h1 F1 H1 fp1 (Itr 0 j.toNat) none ev r1 trivial trivial fun Z2 env2 fp2 σ2 hB hg r3 => io_range⟩
      · cases q
    · cases q
def PSim (K : PySem.W.Frag) (W : WX) (ε : Bool) (ks : List Kd) (xs : List Str) (trs : List (TE × TE)) (f : FA) : Prop := ∀ Z F H env σ fp (Q : List (V × V) → Hp → Prop), R K Z F H env σ fp →
  Post K W ε Z F H env σ fp (fun ds env' => ∀ F' H' fp' vs frs, Ev ε F H env fp F' H' env' fp' → R K Z F' H' env' σ fp' → RepA K F' H' ds vs frs → KOks H env fp F' env' fp' ks frs → Q ((xs.map V.str).zip vs) H') (f env) → tPairs trs σ H Q
structure DPs (X : Cx) (W : WX) (ε : Bool) (ks : List Kd) (xs : List Str) (pos : Pos) (keys : List (Option Expr)) (es : List Expr) (f : FA) : Prop where
  ex : ∃ trs, PPs X pos keys es trs ∧ PSim X.K W ε ks xs trs f
theorem dp_nil : DPs X W false [] [] pos [] [] aNil := ⟨[], pps_nil, fun Z F H env σ fp Q r h => h F H fp [] [] (Ev.refl (Z := Z) _ rfl) r trivial trivial⟩
theorem dp_cons {x : Str} {j : Nat} {kp : Pos} (h1 : DE X W ε1 k e f) (h2 : DPs X W ε2 ks xs pos keys es fa) (hp : ε2 = true → ∀ j, k ≠ .bor j := by first | exact fun h => (nomatch h) | exact fun _ j h => (nomatch h)) :
    DPs X W (ε1 || ε2) (k :: ks) (x :: xs) pos (some (.Constant (.str x) j kp) :: keys) (e :: es) (aCons f fa) := by
  obtain ⟨t1, p1, s1⟩ := h1.ex
  obtain ⟨trs, p2, s2⟩ := h2.ex
  refine ⟨_, pps_cons pe_str p1 p2, fun Z F H env σ fp Q r h => ?_⟩
  refine s1 Z F H env σ fp _ r (Post.bind h orL orLF fun d env1 h1 F1 H1 fp1 v fr e1 r1 rep1 k1' => ?_)
  have h1' := Post.seq (a := d) e1 h1
  refine s2 Z F1 H1 env1 σ fp1 _ r1 (Post.bind (ε := ε2) h1' id id fun ds env2 h2 F2 H2 fp2 vs frs e2 r2 rep2 k2' => ?_)
  have hk := KOk.ev e2 rep1 hp k1'
  refine h2 F2 H2 fp2 (v :: vs) (fr :: frs) (e1.trans e2) r2 ⟨hk.1, rep2⟩ ⟨hk.2, fun ko i gg hi hg a h3 h4 => ?_, k2'.rel e1⟩
  subst ko
  have q := KOks.get k2' hi hg a h4
  have nd := Rep.dom d v fr rep1 a h3
  rcases q.1 with z | z
  · exact nd z
  · exact (k1' a h3).2.1 z
def fDic (xs : List Str) (fa : FA) : FE := fun env => (fa env).bind fun ds e => .ok (.node true (.dic (xs.map .inr)) ds) e
theorem merge_new : ∀ {l acc : List (Key × V)}, (l.map (·.1)).Nodup → (∀ p ∈ l, ∀ q ∈ acc, p.1 ≠ q.1) → mergeK acc l = acc ++ l
  | [], acc, _, _ => by simp [mergeK]
  | p :: l, acc, nd, hn => by
    rw [List.map_cons, List.nodup_cons] at nd
    have e1 : putK acc p.1 p.2 = acc ++ [p] := by
      have : valV acc p.1 = none := by
        cases q : valV acc p.1 with
        | none => rfl
        | some v =>
          have h : (acc.any fun kv => decide (kv.1 = p.1)) = true := by rw [valV_any, q]; rfl
          rw [List.any_eq_true] at h
          obtain ⟨r, hr, he⟩ := h
          exact absurd (of_decide_eq_true he).symm (hn p (List.mem_cons_self ..) r hr)
      rw [putK_new _ this]
    show mergeK (putK acc p.1 p.2) l = _
    rw [e1, merge_new nd.2 fun r hr q hq => ?_]
    · simp
    · rcases List.mem_append.mp hq with hq | hq
      · exact hn r (List.mem_cons_of_mem _ hr) q hq
      · rw [List.mem_singleton] at hq
        subst hq
        exact fun z => nd.1 (by rw [← z]; exact List.mem_map_of_mem hr)
theorem nodup_inr : ∀ {xs : List Str}, xs.Nodup → (xs.map (Sum.inr : Str → Key)).Nodup
  | [], _ => List.nodup_nil
  | x :: xs, h => by
    rw [List.nodup_cons] at h
    rw [List.map_cons, List.nodup_cons]
    refine ⟨fun z => ?_, nodup_inr h.2⟩
    obtain ⟨y, hy, e⟩ := List.mem_map.mp z
    cases e
    exact h.1 hy
theorem zip_keys : ∀ (xs : List Str) (vs : List V), (xs.map V.str).zip vs = ((xs.map (Sum.inr : Str → Key)).zip vs).map fun kv => (kV kv.1, kv.2)
  | [], vs => rfl
  | _ :: _, [] => rfl
  | x :: xs, v :: vs => by
    simp only [List.map_cons, List.zip_cons_cons, zip_keys xs vs]
    rfl
theorem de_disp (h : DPs X W ε ks xs pos keys es fa) (hk : ks.all Kd.prot = true := by rfl) (hnd : xs.Nodup := by decide) (hlen : es.length = xs.length := by rfl) (hkl : ks.length = xs.length := by rfl) (h15 : xs.length ≤ 15 := by decide) (hall : keys.all (·.isSome) = true := by rfl) (hl : keys.length = es.length := by rfl) (h0 : keys ≠ [] := by simp) :
    DE X W ε .own (.Dict keys es pos) (fDic xs fa) := by
  obtain ⟨trs, p, s⟩ := h.ex
  refine ⟨_, pe_disp p hall hl h0 (by omega), fun Z F H env σ fp Q r hq => fun pa hpa => ?_⟩
  have g0 := Grow.upd (o := .dK []) r.sub hpa
  have r0 := r.grow g0
  refine s Z F _ env σ fp _ r0 ?_
  have e0 : Ev ε F H env fp F (upd H pa (.dK [])) env fp := g0.ev
  have hq' := Post.seq (a := (0 : Nat)) (ε2 := ε) e0 (by rw [Bool.or_self]; exact hq)
  refine Post.bind hq' id id fun ds e1 h1 F1 H1 fp1 vs frs ev r1 rep ko => ?_
  have no : ¬ OwnA env fp pa := fun z => r.own_dom z hpa
  have hp1 : H1 pa = some (.dK []) := ev.keep pa _ upd_same fun _ => no
  have hF1 : F1 pa = none := by
    have hF0 : F pa = none := by
      cases q : F pa with
      | none => rfl
      | some u => exact absurd hpa (r.sub pa u q).ne
    cases q : F1 pa with
    | none => rfl
    | some u =>
      rcases ev.new pa hF0 (by rw [q]; exact fun z => by cases z) with z | z
      · rw [upd_same] at z; cases z
      · exact absurd z.2 no
  obtain ⟨rl, own⟩ := rep.flat ko hk
  have lens : vs.length = xs.length := by rw [← hkl, ko.len, rep.lens.2, rep.lens.1]
  have nin : pa ∉ frs.flatten := fun z => by
    rcases (own pa z).1 with y | y
    · rw [upd_same] at y; cases y
    · exact no y
  refine ⟨hp1, ((xs.map Sum.inr).zip vs : List (Key × V)), zip_keys xs vs, by rw [List.length_zip, List.length_map, lens, Nat.min_self]; exact h15, ?_⟩
  have hnk := nodup_inr hnd
  rw [merge_new (by rw [List.map_fst_zip (by rw [List.length_map]; omega)]; exact hnk) (fun p _ q hq => by cases hq), List.nil_append]
  have nh : ¬ HoldA e1 fp1 pa := fun ⟨j, hj, hm⟩ => by
    rcases hj with hj | hj
    · rcases ev.own pa ⟨j, hj, hm⟩ with y | y
      · rw [upd_same] at y; cases y
      · exact no y
    · obtain ⟨i, hi, hm'⟩ := ev.lk pa ⟨j, hj, hm⟩
      exact r.hold_dom (.inr hi) hm' hpa
  have nB : ¬ Z.B pa := fun z => r.domB pa z hpa
  have fe : FEv F1 H1 (fun a => a = pa) F1 (upd H1 pa (.dK ((xs.map Sum.inr).zip vs))) := by
    refine ⟨fun a o ho n => by rw [upd_ne n]; exact ho, fun _ _ h => h, fun a h n => absurd h n, fun a ha => ?_, fun a u ha => ?_, nofz_upd rfl⟩
    · by_cases z : a = pa
      · rw [z, upd_same]; exact fun z => by cases z
      · rw [upd_ne z]; exact ha
    · have ne : a ≠ pa := fun z => by rw [z, hF1] at ha; cases ha
      exact (r1.sub a u ha).same fun o ho => by rw [upd_ne ne]; exact ho
  have rF := r1.out fe (fun a ha => by rw [ha]; exact nh) (fun a ha => by rw [ha]; exact nB)
  have back : ∀ a, upd H pa (.dK []) a = none → H a = none := fun a z => by
    cases q : H a with
    | none => rfl
    | some o => rw [g0.keep a o q] at z; cases z
  refine h1 F1 _ fp1 (.ref pa) (pa :: frs.flatten) ⟨fun a o ho n => ?_, fun a u h => ev.sub a u h, fun a x y => (ev.new a x y).imp (back a) id, fun a ha => (ev.own a ha).imp (back a) id, ev.lks, fun a o u ho => g0.nofz a o u (ev.nofz a o u (nofz_upd rfl a o u ho)), fun a ha => fe.dom a (ev.dom a (g0.dom ha)), ev.pure⟩ rF (Rep.mk_own rl nin ⟨⟨by rw [List.length_map, lens], hnk⟩, rfl⟩ (by simp)) fun a ha => ?_
  · have ne : a ≠ pa := fun z => by rw [z, hpa] at ho; cases ho
    rw [upd_ne ne]
    exact ev.keep a o (g0.keep a o ho) n
  · rcases List.mem_cons.mp ha with rfl | ha
    · exact ⟨.inl hpa, fun z => nh (let ⟨j, hj, hm⟩ := z; ⟨j, .inl hj, hm⟩), hF1⟩
    · exact ⟨(own a ha).1.imp (back a) id, (own a ha).2⟩
end
end DL
namespace DL
open PySem PySem.Spec L2 PySem.Calls PyProof.Rows Builtin
section
variable {prog : Program} {w : World} {A : Around} {E : Value → Shared → Prop} {s : Shared} {K : PySem.W.Frag} {x C L f : Addr} {h₀ : Heap} {m : Str → Option Value} {ox : Obj} {od : Option Obj}
end
section
variable {X : Cx} {kk : Nat} {f C : Addr} {fd : FuncData} {ps : List Str} {Fx : List D → Fo} {gG : List Value → List Value → List Value} {gV : List V → List V → List V} {cl : Str}
end
end DL
namespace DL
open PySem PySem.Spec L2
section
variable {X : Cx} {W : WX} {ε : Bool} {k : Kd} {e : Expr} {f : FE} {fd : FuncData} {ps : List Str} {Fx : List D → Fo} {kk kc : Nat} {p pos : Pos}
theorem gV1 {gV : List V → List V → List V} (hv : ∀ vs zs : List V, vs.length = 1 → zs.length = ([] : List Str).length → gV vs zs = arV (arAll 0 1) (vs ++ zs)) : ∀ x, gV [x] [] = [x] := fun x => by rw [hv [x] [] rfl rfl]; rfl
theorem meth_find {K : PySem.W.Frag} {cl m : Str} (h : (He.Fa.meth cl m).ok K = true) : PySem.W.findIn K (.ref (He.ga K cl)) m = some (some (.ref (He.ma K (He.ga K cl) m))) ∧ PySem.W.isFn K (.ref (He.ma K (He.ga K cl) m)) = true := by
  have h' := h
  simp only [He.Fa.ok, Bool.and_eq_true] at h'
  exact ⟨He.eqO_ok h'.1, h'.2.1⟩
theorem de_lenOwn (cl : Str) (c : CCx kc X W) (FO : FnOk X.prog X.w X.K X.mg X.base (L2.CX X.prog X.w) kk (He.ma X.K (He.ga X.K cl) "__len__") fd ps (spD X.K [false] Fx)) (B : BOk X.K fd ps 1 [] (arAll 0 1)) (hm : (He.Fa.meth cl "__len__").ok X.K = true) (hg : X.mg "len" = none) (ha : DE X W ε k e f) (hle : kk + 1 ≤ kc := by first | decide | exact Nat.le_refl _ | omega)
    (hG : Gl X "len" := by rfl) (he : starEach [e] X.env = (false, eval e X.env) :: starEach [] X.env := by rfl) (hpl : (backTo pos (starEach [] X.env)).any (·.1) = false := by rfl) : DE X W (ε || false) .own (.Call (.Name "len" p) [e] [] pos) (fOp (ownD cl Fx lenR) (aCons f aNil)) := by
  obtain ⟨gG, gV, hb, hv⟩ := B.ex
  obtain ⟨h1, h2⟩ := meth_find hm
  exact de_callB (cr_lenOwn (c.rm.mono hle) FO hb h1 h2) (ok_lenOwn (gV1 hv)) hg (da_cons ha da_nil (fun h => by cases h) he) hG (by decide +kernel) (by decide) (by decide) he hpl
theorem de_reprOwn (cl : Str) (c : CCx kc X W) (FO : FnOk X.prog X.w X.K X.mg X.base (L2.CX X.prog X.w) kk (He.ma X.K (He.ga X.K cl) "__repr__") fd ps (spD X.K [false] Fx)) (B : BOk X.K fd ps 1 [] (arAll 0 1)) (hm : (He.Fa.meth cl "__repr__").ok X.K = true) (hg : X.mg "repr" = none) (ha : DE X W ε k e f) (hle : kk + 1 ≤ kc := by first | decide | exact Nat.le_refl _ | omega)
    (hG : Gl X "repr" := by rfl) (he : starEach [e] X.env = (false, eval e X.env) :: starEach [] X.env := by rfl) (hpl : (backTo pos (starEach [] X.env)).any (·.1) = false := by rfl) : DE X W (ε || false) .own (.Call (.Name "repr" p) [e] [] pos) (fOp (ownD cl Fx strR) (aCons f aNil)) := by
  obtain ⟨gG, gV, hb, hv⟩ := B.ex
  obtain ⟨h1, h2⟩ := meth_find hm
  exact de_callB (cr_reprOwn (c.rm.mono hle) FO hb h1 h2) (ok_reprOwn (gV1 hv)) hg (da_cons ha da_nil (fun h => by cases h) he) hG (by decide +kernel) (by decide) (by decide) he hpl
theorem fnOk_stuck {P : Program} {w : World} {K : PySem.W.Frag} {mg : Str → Option Value} {base : Heap} {f : Addr} {kinds : List Bool} (hl : kinds.length = ps.length) : FnOk P w K mg base (L2.CX P w) kk f fd ps (spD K kinds fun _ => .stuck) :=
  ⟨fun vs H Q E ⟨F, ds, frs, hs, rep, hk, _⟩ => by rw [rep.lens.1, ← hk, hl], fun A outer s H args us vs Q E _ _ _ _ ⟨F, ds, frs, hs, rep, hk, _, h⟩ => h.elim⟩
end
end DL
namespace DL
open PySem PySem.Spec L2
section
variable {X : Cx} {W : WX} {k : Nat}
theorem units1 (c : CCx k X W) : X.A.units + 1 < cLine := by have := c.rm.units; omega
theorem unitsE (c : CCx k X W) : X.A.units + 64 < cLine := by have := c.rm.units; omega
theorem cxB {s : Shared} {H : Hp} {scope : Scope} {cenv : Env} {fp : List Addr} (c : CCx k X W) : CCx k (X.blk s H scope cenv fp) WF := ⟨takes_WF, c.rm⟩
end
end DL
namespace DL
open PySem PySem.Spec L2
def ESim0 (K : PySem.W.Frag) (W : WX) (ε : Bool) (t : TE) (f : FE) : Prop := ∀ Z F H env σ fp Q, R K Z F H env σ fp →
  Post K W ε Z F H env σ fp (fun d env' => ∀ F' H' fp' v fr, Ev ε F H env fp F' H' env' fp' → R K Z F' H' env' σ fp' → Rep K F' H' d v fr → Q v H') (f env) → t σ H Q
structure DE0 (X : Cx) (W : WX) (ε : Bool) (e : Expr) (f : FE) : Prop where
  ex : ∃ t, PE X e t ∧ ESim0 X.K W ε t f
section
variable {X : Cx} {W : WX} {ε ε1 ε2 ε3 : Bool} {k : Kd} {e a b c : Expr} {f fa fb : FE} {g : FT} {p pos : Pos}
theorem de0_of (h : DE X W ε k e f) : DE0 X W ε e f := by
  obtain ⟨t, p, s⟩ := h.ex
  exact ⟨t, p, fun Z F H env σ fp Q r hq => s Z F H env σ fp Q r (Post.imp hq fun d e1 h1 F' H' fp' v fr ev r' rep _ => h1 F' H' fp' v fr ev r' rep)⟩
theorem de0_if (hc : DT X W ε1 c g) (ha : DE0 X W ε2 a fa) (hb : DE0 X W ε3 b fb) : DE0 X W (ε1 || (ε2 || ε3)) (.IfExp c a b pos) (fIf g fa fb) := by
  obtain ⟨t1, p1, s1⟩ := hc.ex
  obtain ⟨t2, p2, s2⟩ := ha.ex
  obtain ⟨t3, p3, s3⟩ := hb.ex
  refine ⟨_, pe_ifExp p1 p2 p3, fun Z F H env σ fp Q r hq => ?_⟩
  refine s1 Z F H env σ fp _ r (Post.bind hq orL orLF fun c e1 h1 F1 H1 fp1 ev r1 => ?_)
  have hs := Post.seq (a := ()) (ε2 := ε2 || ε3) ev h1
  cases c with
  | true => exact s2 Z F1 H1 e1 σ fp1 Q r1 (Post.imp (hs.mono orL orLF) fun d e2 h3 F2 H2 fp2 v fr ev2 r2 rp => h3 F2 H2 fp2 v fr (ev.trans (ev2.mono orL orLF)) r2 rp)
  | false => exact s3 Z F1 H1 e1 σ fp1 Q r1 (Post.imp (hs.mono orR orRF) fun d e2 h3 F2 H2 fp2 v fr ev2 r2 rp => h3 F2 H2 fp2 v fr (ev.trans (ev2.mono orR orRF)) r2 rp)
theorem esim_op0 {t : TE} {t' : TE} {r : List V → Hp → VK → Prop} {g : List D → Option D} (ha : ESim0 X.K W ε t f) (ho : OpOk X.K r g) (ht : ∀ σ H Q, tCons t tNil σ H (fun vs H' => r vs H' Q) → t' σ H Q) : ESim X.K W ε .own t' (fOp g (aCons f aNil)) := by
  intro Z F H env σ fp Q r0 hq
  refine ht σ H Q ?_
  have hq' : Post X.K W ε Z F H env σ fp (fun d env' => ∀ F' H' fp' v fr, Ev ε F H env fp F' H' env' fp' → R X.K Z F' H' env' σ fp' → Rep X.K F' H' d v fr → KOk .own H env fp F' env' fp' fr → Q v H') ((f env).bind fun d e1 => optR (g [d]) e1) := by
    have e : fOp g (aCons f aNil) env = (f env).bind fun d e1 => optR (g [d]) e1 := by
      unfold fOp aCons aNil
      cases f env <;> rfl
    rw [← e]
    exact hq
  refine ha Z F H env σ fp _ r0 (Post.bind hq' id id fun d e1 h1 F1 H1 fp1 v fr ev r1 rep => ?_)
  show r [v] H1 Q
  cases q : g [d] with
  | none => rw [q] at h1; exact h1.elim
  | some d2 =>
    rw [q] at h1
    refine ho F1 H1 [d] [v] [fr] d2 Q r1.sub ⟨rep, trivial⟩ q fun F' H' v fr gr rp fresh => ?_
    have ev2 : Ev ε F H env fp F' H' e1 fp1 := (ev.trans (gr.ev (ε := ε))).mono (by cases ε <;> simp) (by cases ε <;> simp)
    exact h1 F' H' fp1 v fr ev2 (r1.grow gr) rp fun a ha => ⟨.inl (ev.nd (fresh a ha).1), fun z => r1.own_dom z (fresh a ha).1, (fresh a ha).2⟩
theorem de_callTy0 {x : Str} {T : String} {r : List V → Hp → VK → Prop} {g : List D → Option D} (hc : CallR X (.type T) r) (ho : OpOk X.K r g) (hm : X.mg x = none) (ha : DE0 X W ε e f) (hg : Gl X x := by rfl)
    (hv : bootBuiltins x = some (.type T) := by decide +kernel) (hn : x ≠ "__name__" := by decide) (hdb : (x == ("__debug__" : Str)) = false := by decide)
    (he : starEach [e] X.env = (false, eval e X.env) :: starEach [] X.env := by rfl) (hpl : (backTo pos (starEach ([] : List Expr) X.env)).any (·.1) = false := by rfl) : DE X W ε .own (.Call (.Name x p) [e] [] pos) (fOp g (aCons f aNil)) := by
  obtain ⟨t, q, s⟩ := ha.ex
  exact ⟨_, pe_callTy hc hg hm hv (pa_cons q pa_nil he) hn hdb he hpl, esim_op0 s ho fun σ H Q h => h⟩
end
def scEq : List D → Option Bool
  | [x, y] => (scV x).bind fun v => (scV y).bind fun w => if scal v w = true then some (decide (v = w)) else none
  | _ => none
def oEqF (ds : List D) : Option D := match scEq ds with
  | some b => some (.bl b)
  | none => oEq ds
def oNeF (ds : List D) : Option D := match scEq ds with
  | some b => some (.bl (!b))
  | none => oNe ds
section
variable {K : PySem.W.Frag}
theorem scEq_inv {F H : Hp} {ds : List D} {vs : List V} {frs : List (List Addr)} {b : Bool} (e : scEq ds = some b) (rep : RepA K F H ds vs frs) : ∃ v w, vs = [v, w] ∧ scal v w = true ∧ b = decide (v = w) := by
  unfold scEq at e
  split at e
  · rename_i x y
    simp only [Option.bind_eq_some_iff] at e
    obtain ⟨v, h1, w, h2, h3⟩ := e
    obtain ⟨v', w', f, g1, rfl, rfl, r1, r2⟩ := rep.two
    obtain ⟨rfl, _⟩ := scV_rep h1 r1
    obtain ⟨rfl, _⟩ := scV_rep h2 r2
    split at h3
    · rename_i z
      cases h3
      exact ⟨_, _, rfl, z, rfl⟩
    · cases h3
  · cases e
theorem ok_eqF : OpOk K (l2 fun x y H Q => rEq x y H Q ∨ rEqD K x y H Q) oEqF := by
  intro F H ds vs frs d Q hs rep e q
  unfold oEqF at e
  split at e
  · rename_i b hb
    obtain ⟨v, w, rfl, h1, h2⟩ := scEq_inv hb rep
    cases e
    subst h2
    exact .inl ⟨h1, same_q hs (.plain rfl) q⟩
  · have r := ok_eq F H ds vs frs d Q hs rep e q
    match vs, r with
    | [x, y], r => exact .inr r
theorem ok_neF : OpOk K (l2 fun x y H Q => rNe x y H Q ∨ rNeD K x y H Q) oNeF := by
  intro F H ds vs frs d Q hs rep e q
  unfold oNeF at e
  split at e
  · rename_i b hb
    obtain ⟨v, w, rfl, h1, h2⟩ := scEq_inv hb rep
    cases e
    subst h2
    exact .inl ⟨h1, same_q hs (.plain rfl) q⟩
  · have r := ok_ne F H ds vs frs d Q hs rep e q
    match vs, r with
    | [x, y], r => exact .inr r
theorem op_eqF {X : Cx} (hu : X.A.units + 64 < cLine) : OpR X (compareOp .Eq) (fun x y H Q => rEq x y H Q ∨ rEqD X.K x y H Q) := op_eq.or (op_eqD hu)
theorem op_neF {X : Cx} (hu : X.A.units + 64 < cLine) : OpR X (compareOp .NotEq) (fun x y H Q => rNe x y H Q ∨ rNeD X.K x y H Q) := op_ne.or (op_neD hu)
end
end DL
namespace DL
open PySem PySem.Spec L2
def aConsN (j : Nat) (f : FE) (g : FA) : FA := fun env => (f env).bind fun d e => match e[j]? with
  | some (.bor none _) => (g e).map (d :: ·)
  | _ => .stuck
def ASimR (K : PySem.W.Frag) (W : WX) (ε : Bool) (t : TA) (f : FA) : Prop := ∀ Z F H env σ fp Q, R K Z F H env σ fp →
  Post K W ε Z F H env σ fp (fun ds env' => ∀ F' H' fp' vs frs, Ev ε F H env fp F' H' env' fp' → R K Z F' H' env' σ fp' → RepA K F' H' ds vs frs → Q vs H') (f env) → t σ H Q
section
variable {K : PySem.W.Frag} {W : WX} {ε ε1 ε2 : Bool} {j : Nat} {k k1 k2 : Kd} {ks : List Kd} {te : TE} {ta : TA} {f : FE} {g : FA}
theorem asimR_of (h : ASim K W ε ks ta g) : ASimR K W ε ta g := fun Z F H env σ fp Q r hq =>
  h Z F H env σ fp Q r (Post.imp hq fun d e1 h1 F' H' fp' vs frs ev r' rep _ => h1 F' H' fp' vs frs ev r' rep)
theorem asimR_consN (he : ESim K W ε1 (.bor j) te f) (ha : ASimR K W ε2 ta g) : ASimR K W (ε1 || ε2) (tCons te ta) (aConsN j f g) := by
  intro Z F H env σ fp Q r h
  refine he Z F H env σ fp _ r (Post.bind h orL orLF fun d env1 h1 F1 H1 fp1 v fr e1 r1 rep1 k1 => ?_)
  split at h1
  · rename_i d0 q
    have hB : ∀ a ∈ fr, Z.B a := fun a hm => by
      have s := r1.slot j
      unfold SlotR at s
      rw [q] at s
      obtain ⟨_, _, _, hb⟩ := s
      exact hb a (k1.2 a hm)
    have hs := Post.seq (a := d) e1 h1
    refine ha Z F1 H1 env1 σ fp1 _ r1 (Post.bind (ε := ε2) hs id id fun ds env2 h2 F2 H2 fp2 vs frs e2 r2 rep2 => ?_)
    have hr := rep1.ev e2 fun _ a hm z => by
      obtain ⟨i, hi, hmi⟩ := z
      exact r1.sepB i (.inl hi) a hmi (hB a hm)
    exact h2 F2 H2 fp2 (v :: vs) (fr :: frs) (e1.trans e2) r2 ⟨hr, rep2⟩
  · exact h1.elim
theorem esim_accR {t' : TE} {r : List V → Hp → VK → Prop} {o : List D → Option D} (ha : ASimR K W ε ta g) (ho : AccOk K r o) (h0 : o [] = none) (ht : ∀ σ H Q, ta σ H (fun vs H' => r vs H' Q) → t' σ H Q) : ESim K W ε .frz t' (fChk (fOp o g)) := by
  intro Z F H env σ fp Q r0 hq
  have hq2 : Post K W ε Z F H env σ fp (fun d env' => ∀ F' H' fp' v fr, Ev ε F H env fp F' H' env' fp' → R K Z F' H' env' σ fp' → Rep K F' H' d v fr → KOk .frz H env fp F' env' fp' fr → Q v H') ((g env).bind fun ds e => (optR (o ds) e).bind fun d e => if d.frz = true then .ok d e else .stuck) := by
    have q : fChk (fOp o g) env = (g env).bind fun ds e => (optR (o ds) e).bind fun d e => if d.frz = true then .ok d e else .stuck := by
      unfold fChk fOp
      cases g env <;> rfl
    rw [← q]
    exact hq
  refine ht σ H Q (ha Z F H env σ fp _ r0 (Post.bind hq2 id id fun ds e1 h1 F1 H1 fp1 vs frs ev r1 rep => ?_))
  cases q : o ds with
  | none => rw [q] at h1; exact h1.elim
  | some d =>
    rw [q] at h1
    simp only [optR_some, Rs.bind_ok] at h1
    by_cases z : d.frz = true
    · rw [if_pos z] at h1
      cases frs with
      | nil =>
        cases ds with
        | nil => rw [h0] at q; cases q
        | cons d ds => cases vs <;> exact rep.elim
      | cons fr0 frs =>
        exact ho F1 H1 ds vs fr0 frs d Q r1.sub rep q fun v fr rp sb => by
          have e := Rep.frz_nil d v fr z rp
          subst e
          exact h1 F1 H1 fp1 v [] ev r1 rp rfl
    · rw [if_neg z] at h1
      exact h1.elim
end
section
variable {X : Cx} {W : WX} {ε ε1 ε2 : Bool} {j : Nat} {k k1 k2 : Kd} {a b : Expr} {fa fb : FE} {pos : Pos}
theorem da_twoN (ha : DE X W ε1 (.bor j) a fa) (hb : DE X W ε2 k2 b fb) : ∃ ta tb, PE X a ta ∧ PE X b tb ∧ ASimR X.K W (ε1 || (ε2 || false)) (tCons ta (tCons tb tNil)) (aConsN j fa (aCons fb aNil)) := by
  obtain ⟨ta, p1, s1⟩ := ha.ex
  obtain ⟨tb, p2, s2⟩ := hb.ex
  exact ⟨ta, tb, p1, p2, asimR_consN s1 (asimR_of (asim_cons s2 asim_nil))⟩
theorem de_subN (hu : X.A.units + 1 < cLine) (ha : DE X W ε1 (.bor j) a fa) (hb : DE X W ε2 k2 b fb) (hs : PlainIx b := by exact fun _ _ => rfl) :
    DE X W (ε1 || (ε2 || false)) .frz (.Subscript a b pos) (fChk (fOp oItm (aConsN j fa (aCons fb aNil)))) := by
  obtain ⟨ta, tb, p1, p2, s⟩ := da_twoN ha hb
  exact ⟨_, pe_ix (ix_any hu) p1 p2 hs, esim_accR s ok_itm rfl fun σ H Q h => h⟩
end
end DL
namespace DL
open PySem PySem.Spec L2
mutual
def noFz : D → Bool
  | .node o _ xs => o && noFzL xs
  | .scr _ => false
  | .tscr _ _ => false
  | .lam _ _ _ => false
  | _ => true
def noFzL : List D → Bool
  | [] => true
  | d :: ds => noFz d && noFzL ds
end
def zA : List Bool → List D → List D
  | true :: ks, d :: ds => d :: zA ks ds
  | false :: ks, d :: ds => d.fz :: zA ks ds
  | _, ds => ds
def zF (kinds : List Bool) (Fx : List D → Fo) (ds : List D) : Fo := match Fx (zA kinds ds) with
  | .ret d ms => if (noFz d && noFzL ms) = true then .ret d ms else .stuck
  | _ => .stuck
def bareH (H : Hp) (a : Addr) : Option HO := match H a with
  | some (.frz o u) => if isDic u = true then some u else some (.frz o u)
  | o => o
theorem bareH_has {H : Hp} {a : Addr} {u : HO} (h : Has H a u) (n : ∀ o v, u = .frz o v → False) : bareH H a = some u := by
  unfold bareH
  rcases h with h | ⟨⟨o, h⟩, hd⟩
  · rw [h]
    cases u with
    | frz o v => exact (n o v rfl).elim
    | _ => rfl
  · rw [h]
    simp [hd]
theorem bareH_of {H : Hp} {a : Addr} {u : HO} (h : bareH H a = some u) : Has H a u := by
  unfold bareH at h
  split at h
  · rename_i o v q
    split at h
    · rename_i hd
      cases h
      exact .inr ⟨⟨o, q⟩, hd⟩
    · cases h
      exact .inl q
  · exact .inl h
def isFrzB : HO → Bool
  | .frz _ u => isDic u
  | _ => false
theorem isFrzB_of {u : HO} (h : isFrzB u = true) : ∃ o v, u = .frz o v := by
  cases u with
  | frz o v => exact ⟨o, v, rfl⟩
  | _ => cases h
noncomputable def plusF (F H : Hp) (S : Addr → Prop) : Hp := fun a => match F a with
  | some u => if isFrzB u = false then some u else @ite _ (S a) (Classical.propDecidable _) (bareH H a) none
  | none => @ite _ (S a) (Classical.propDecidable _) (bareH H a) none
section
variable {K : PySem.W.Frag} {F H F' H' : Hp} {S : Addr → Prop}
theorem plusF_sub {a : Addr} {u : HO} (h : F a = some u) (n : isFrzB u = false) : plusF F H S a = some u := by
  unfold plusF
  rw [h]
  exact if_pos n
theorem plusF_in {a : Addr} (h : ∀ u, F a = some u → isFrzB u = true) (hs : S a) : plusF F H S a = bareH H a := by
  unfold plusF
  cases q : F a with
  | none => exact if_pos hs
  | some u => simp only [h u q]; exact if_pos hs
theorem plusF_out {a : Addr} (h : ∀ u, F a = some u → isFrzB u = true) (hs : ¬ S a) : plusF F H S a = none := by
  unfold plusF
  cases q : F a with
  | none => exact if_neg hs
  | some u => simp only [h u q]; exact if_neg hs
theorem plusF_has (hs : ∀ a u, F a = some u → Has H a u) (a : Addr) (u : HO) (h : plusF F H S a = some u) : Has H a u := by
  by_cases q : ∃ v, F a = some v ∧ isFrzB v = false
  · obtain ⟨v, q1, q2⟩ := q
    rw [plusF_sub q1 q2] at h
    cases h
    exact hs a _ q1
  · have q' : ∀ u, F a = some u → isFrzB u = true := fun u hu => by
      cases z : isFrzB u with
      | true => rfl
      | false => exact (q ⟨u, hu, z⟩).elim
    by_cases z : S a
    · rw [plusF_in q' z] at h
      exact bareH_of h
    · rw [plusF_out q' z] at h
      cases h
theorem isN_nofrz {s : Sh} {vs : List V} {u : HO} (h : IsN K s vs u) : ∀ o v, u = .frz o v → False := by
  intro o v e
  subst e
  cases s with
  | tup => cases h
  | lst => cases h
  | dic ks => cases h.2
  | dit ks => cases h.2
  | ins c fs => obtain ⟨_, dx, h⟩ := h; cases h
  | exd fs => cases h.2
theorem notFrz_of {s : Sh} {vs : List V} {u : HO} (h : IsN K s vs u) : isFrzB u = false := by
  cases q : isFrzB u with
  | false => rfl
  | true =>
    obtain ⟨o, v, e⟩ := isFrzB_of q
    exact (isN_nofrz h o v e).elim
theorem has_inj2 {a : Addr} {w u : HO} (h : Has H a w) (h' : Has H a u) (n : isFrzB w = false) (n' : ∀ o v, u = .frz o v → False) : w = u := by
  rcases h with h | ⟨⟨o, h⟩, d⟩
  · rcases h' with h' | ⟨⟨o', h'⟩, d'⟩
    · exact Option.some.inj (h.symm.trans h')
    · rw [h] at h'
      have e := Option.some.inj h'
      subst e
      rw [show isFrzB (HO.frz o' u) = isDic u from rfl, d'] at n
      cases n
  · rcases h' with h' | ⟨⟨o', h'⟩, d'⟩
    · rw [h] at h'
      exact (n' _ _ (Option.some.inj h').symm).elim
    · rw [h] at h'
      cases h'
      rfl
theorem scrO_nf {u : HO} {vs : List V} (h : ScrO u vs) : isFrzB u = false := by
  rcases h with ⟨o, rfl⟩ | rfl <;> rfl
mutual
theorem rep_up (hs : ∀ a u, F a = some u → Has H a u) : ∀ (d : D) (v : V) (fp : List Addr), Rep K F H d v fp → Rep K (plusF F H S) H d v fp
  | .non, v, fp, h => h
  | .bl _, v, fp, h => h
  | .int _, v, fp, h => h
  | .str _, v, fp, h => h
  | .ob _, v, fp, h => h
  | .ty _, v, fp, h => h
  | .scr _, v, fp, h => by
    obtain ⟨a, h1, h2, h3⟩ := h
    exact ⟨a, h1, h2, h3.imp (fun ⟨o, z, zz⟩ => ⟨o, plusF_sub z (scrO_nf zz), zz⟩) id⟩
  | .tscr _ _, v, fp, h => by
    obtain ⟨⟨a, h1, h3⟩, h4⟩ := h
    exact ⟨⟨a, h1, h3.imp (fun ⟨o, z, zz⟩ => ⟨o, plusF_sub z (scrO_nf zz), zz⟩) id⟩, h4.mono (fun b u n z => plusF_sub z (by cases u with | frz o v => exact absurd rfl (n o v) | _ => rfl)) fun b hb u _ hu => hu⟩
  | .lam _ _ _, v, fp, h => ⟨h.1, h.2.1, plusF_sub h.2.2 rfl⟩
  | .node true s xs, v, fp, h => by
    simp only [Rep] at h ⊢
    obtain ⟨a, u, vs, fq, rfl, rfl, h1, h2, h3, h4, h5⟩ := h
    exact ⟨a, u, vs, fq, rfl, rfl, h1, h2, h3, h4, repL_up hs xs vs fq h5⟩
  | .node false s xs, v, fp, h => by
    simp only [Rep] at h ⊢
    obtain ⟨a, u, vs, rfl, rfl, h1, h2, h3⟩ := h
    exact ⟨a, u, vs, rfl, rfl, plusF_sub h1 (notFrz_of h2), h2, repL_up hs xs vs [] h3⟩
theorem repL_up (hs : ∀ a u, F a = some u → Has H a u) : ∀ (ds : List D) (vs : List V) (fp : List Addr), RepL K F H ds vs fp → RepL K (plusF F H S) H ds vs fp
  | [], vs, fp, h => h
  | d :: ds, vs, fp, h => by
    simp only [RepL] at h ⊢
    obtain ⟨v, ws, f1, f2, rfl, rfl, h1, h2, h3⟩ := h
    exact ⟨v, ws, f1, f2, rfl, rfl, h1, rep_up hs d v f1 h2, repL_up hs ds ws f2 h3⟩
end
mutual
theorem rep_plus (hs : ∀ a u, F a = some u → Has H a u) : ∀ (d : D) (v : V) (fp : List Addr), (∀ a ∈ fp, S a) → Rep K F H d v fp → Rep K (plusF F H S) H d.fz v []
  | .non, v, fp, _, h => ⟨h.1, rfl⟩
  | .bl _, v, fp, _, h => ⟨h.1, rfl⟩
  | .int _, v, fp, _, h => ⟨h.1, rfl⟩
  | .str _, v, fp, _, h => ⟨h.1, rfl⟩
  | .ob _, v, fp, _, h => ⟨h.1, rfl⟩
  | .ty _, v, fp, _, h => ⟨h.1, rfl⟩
  | .scr _, v, fp, _, h => by
    obtain ⟨a, h1, h2, h3⟩ := h
    exact ⟨a, h1, rfl, h3.imp (fun ⟨o, z, zz⟩ => ⟨o, plusF_sub z (scrO_nf zz), zz⟩) id⟩
  | .tscr _ _, v, fp, _, h => by
    obtain ⟨⟨a, h1, h3⟩, h4⟩ := h
    exact ⟨a, h1, rfl, h3.imp (fun ⟨o, z, zz⟩ => ⟨o, plusF_sub z (scrO_nf zz), zz⟩) id⟩
  | .lam _ _ _, v, fp, _, h => ⟨h.1, rfl, plusF_sub h.2.2 rfl⟩
  | .node true s xs, v, fp, hS, h => by
    simp only [Rep] at h
    obtain ⟨a, u, vs, fq, rfl, rfl, h1, h2, h3, h4, h5⟩ := h
    have r := repL_plus hs xs vs fq (fun b hb => hS b (List.mem_cons_of_mem _ hb)) h5
    simp only [D.fz, Rep]
    refine ⟨a, u, vs, rfl, by trivial, ?_, h2, r⟩
    by_cases q : ∃ w, F a = some w ∧ isFrzB w = false
    · obtain ⟨w, q1, q2⟩ := q
      rw [plusF_sub q1 q2]
      congr 1
      exact has_inj2 (hs a w q1) h1 q2 (isN_nofrz h2)
    · have q' : ∀ u, F a = some u → isFrzB u = true := fun u hu => by
        cases z : isFrzB u with
        | true => rfl
        | false => exact (q ⟨u, hu, z⟩).elim
      rw [plusF_in q' (hS a (List.mem_cons_self ..))]
      exact bareH_has h1 (isN_nofrz h2)
  | .node false s xs, v, fp, hS, h => by
    simp only [Rep] at h
    obtain ⟨a, u, vs, rfl, rfl, h1, h2, h3⟩ := h
    simp only [D.fz, Rep]
    exact ⟨a, u, vs, rfl, by trivial, plusF_sub h1 (by cases q : isFrzB u with | false => rfl | true => obtain ⟨o, v, e⟩ := isFrzB_of q; exact (isN_nofrz h2 o v e).elim), h2, repL_plus hs xs vs [] (fun b hb => nomatch hb) h3⟩
theorem repL_plus (hs : ∀ a u, F a = some u → Has H a u) : ∀ (ds : List D) (vs : List V) (fp : List Addr), (∀ a ∈ fp, S a) → RepL K F H ds vs fp → RepL K (plusF F H S) H (fzL ds) vs []
  | [], vs, fp, _, h => ⟨h.1, rfl⟩
  | d :: ds, vs, fp, hS, h => by
    simp only [RepL] at h
    obtain ⟨v, ws, f1, f2, rfl, rfl, h1, h2, h3⟩ := h
    simp only [fzL, RepL]
    exact ⟨v, ws, [], [], rfl, by trivial, fun b hb => (nomatch hb), rep_plus hs d v f1 (fun b hb => hS b (List.mem_append_left _ hb)) h2, repL_plus hs ds ws f2 (fun b hb => hS b (List.mem_append_right _ hb)) h3⟩
end
mutual
theorem rep_noFz : ∀ (d : D) (v : V) (fp : List Addr), noFz d = true → Rep K F H d v fp → Rep K F' H d v fp
  | .non, v, fp, _, h => h
  | .bl _, v, fp, _, h => h
  | .int _, v, fp, _, h => h
  | .str _, v, fp, _, h => h
  | .ob _, v, fp, _, h => h
  | .ty _, v, fp, _, h => h
  | .scr _, v, fp, n, h => by cases n
  | .tscr _ _, v, fp, n, h => by cases n
  | .lam _ _ _, v, fp, n, h => by cases n
  | .node true s xs, v, fp, n, h => by
    simp only [noFz, Bool.true_and] at n
    simp only [Rep] at h ⊢
    obtain ⟨a, u, vs, fq, rfl, rfl, h1, h2, h3, h4, h5⟩ := h
    exact ⟨a, u, vs, fq, rfl, rfl, h1, h2, h3, h4, repL_noFz xs vs fq n h5⟩
  | .node false s xs, v, fp, n, h => by
    simp only [noFz, Bool.false_and] at n
    cases n
theorem repL_noFz : ∀ (ds : List D) (vs : List V) (fp : List Addr), noFzL ds = true → RepL K F H ds vs fp → RepL K F' H ds vs fp
  | [], vs, fp, _, h => h
  | d :: ds, vs, fp, n, h => by
    simp only [noFzL, Bool.and_eq_true] at n
    simp only [RepL] at h ⊢
    obtain ⟨v, ws, f1, f2, rfl, rfl, h1, h2, h3⟩ := h
    exact ⟨v, ws, f1, f2, rfl, rfl, h1, rep_noFz d v f1 n.1 h2, repL_noFz ds ws f2 n.2 h3⟩
end
theorem repA_noFz : ∀ {ds : List D} {vs : List V} {frs : List (List Addr)}, noFzL ds = true → RepA K F H ds vs frs → RepA K F' H ds vs frs
  | [], [], [], _, h => h
  | [], [], _ :: _, _, h => h
  | [], _ :: _, _, _, h => h
  | _ :: _, [], _, _, h => h.elim
  | _ :: _, _ :: _, [], _, h => h.elim
  | d :: ds, v :: vs, f :: fs, n, h => by
    simp only [noFzL, Bool.and_eq_true] at n
    exact ⟨rep_noFz d v f n.1 h.1, repA_noFz n.2 h.2⟩
def LentA (kinds : List Bool) (frs : List (List Addr)) (a : Addr) : Prop := ∃ (i : Nat) (f : List Addr), kinds[i]? = some false ∧ frs[i]? = some f ∧ a ∈ f
def zfr : List Bool → List (List Addr) → List (List Addr)
  | true :: ks, f :: fs => f :: zfr ks fs
  | false :: ks, _ :: fs => [] :: zfr ks fs
  | _, fs => fs
theorem zfr_get : ∀ {ks : List Bool} {frs : List (List Addr)} {i : Nat} {f : List Addr}, (zfr ks frs)[i]? = some f → frs.length = ks.length → (ks[i]? = some true ∧ frs[i]? = some f) ∨ (ks[i]? = some false ∧ f = [])
  | [], [], i, f, h, _ => by simp [zfr] at h
  | [], _ :: _, i, f, h, l => by simp at l
  | _ :: _, [], i, f, h, l => by simp at l
  | true :: ks, g :: gs, 0, f, h, l => by
    simp [zfr] at h
    exact .inl ⟨rfl, by simp [h]⟩
  | false :: ks, g :: gs, 0, f, h, l => by
    simp [zfr] at h
    exact .inr ⟨rfl, h⟩
  | true :: ks, g :: gs, i + 1, f, h, l => by
    have q := zfr_get (ks := ks) (frs := gs) (i := i) (f := f) (by simpa [zfr] using h) (by simpa using l)
    simpa using q
  | false :: ks, g :: gs, i + 1, f, h, l => by
    have q := zfr_get (ks := ks) (frs := gs) (i := i) (f := f) (by simpa [zfr] using h) (by simpa using l)
    simpa using q
theorem repA_len : ∀ {ds : List D} {vs : List V} {frs : List (List Addr)}, RepA K F H ds vs frs → vs.length = ds.length ∧ frs.length = ds.length
  | [], [], [], _ => ⟨rfl, rfl⟩
  | [], [], _ :: _, h => h.elim
  | [], _ :: _, _, h => h.elim
  | _ :: _, [], _, h => h.elim
  | _ :: _, _ :: _, [], h => h.elim
  | _ :: _, _ :: _, _ :: _, h => by
    obtain ⟨a, b⟩ := repA_len h.2
    simp [a, b]
theorem zA_rep (hs : ∀ a u, F a = some u → Has H a u) : ∀ {ks : List Bool} {ds : List D} {vs : List V} {frs : List (List Addr)}, ks.length = ds.length → (∀ (i : Nat) (f : List Addr), ks[i]? = some false → frs[i]? = some f → ∀ a ∈ f, S a) →
    RepA K F H ds vs frs → RepA K (plusF F H S) H (zA ks ds) vs (zfr ks frs) := by
  have up : ∀ (d : D) (v : V) (f : List Addr), Rep K F H d v f → Rep K (plusF F H S) H d v f := by
    intro d v f h
    exact rep_up hs d v f h
  intro ks
  induction ks with
  | nil =>
    intro ds vs frs l _ h
    cases ds with
    | nil => cases vs <;> cases frs <;> exact h
    | cons d ds => simp at l
  | cons k ks ih =>
    intro ds vs frs l hS h
    cases ds with
    | nil => simp at l
    | cons d ds =>
      cases vs with
      | nil => exact h.elim
      | cons v vs =>
        cases frs with
        | nil => exact h.elim
        | cons f fs =>
          have r := ih (ds := ds) (vs := vs) (frs := fs) (by simpa using l) (fun i g h1 h2 => hS (i + 1) g (by simpa using h1) (by simpa using h2)) h.2
          cases k with
          | true => exact ⟨up d v f h.1, r⟩
          | false => exact ⟨rep_plus hs d v f (hS 0 f rfl rfl) h.1, r⟩
theorem spD_z {kinds : List Bool} {Fx : List D → Fo} {vs : List V} {Q : VK} {E : XK} (h : spD K kinds (zF kinds Fx) vs H Q E) : spD K kinds Fx vs H Q E := by
  obtain ⟨F, ds, frs, hs, rep, hl, sep, po⟩ := h
  have hlen := repA_len rep
  refine ⟨plusF F H (LentA kinds frs), zA kinds ds, zfr kinds frs, plusF_has hs, zA_rep hs hl (fun i f h1 h2 a ha => ⟨i, f, h1, h2, ha⟩) rep, ?_, ?_, ?_⟩
  · have q : ∀ (ks : List Bool) (ds : List D), ks.length = ds.length → (zA ks ds).length = ds.length := by
      intro ks
      induction ks with
      | nil => intro ds h; cases ds <;> simp [zA] at h ⊢
      | cons k ks ih =>
        intro ds h
        cases ds with
        | nil => simp at h
        | cons d ds =>
          have := ih ds (by simpa using h)
          cases k <;> simp [zA, this]
    rw [q _ _ hl]
    exact hl
  · have zl : frs.length = kinds.length := by rw [hlen.2, hl]
    refine ⟨fun i j fi fj ne h1 h2 h3 a ha hb => ?_, fun i fi h1 h2 a ha => ?_, fun i fi h1 h2 => ?_⟩
    · rcases zfr_get h2 zl with ⟨_, z2⟩ | ⟨z1, _⟩
      · rcases zfr_get h3 zl with ⟨_, z3⟩ | ⟨_, z3⟩
        · exact sep.apart i j fi fj ne h1 z2 z3 a ha hb
        · rw [z3] at hb
          cases hb
      · rw [h1] at z1
        cases z1
    · rcases zfr_get h2 zl with ⟨_, z2⟩ | ⟨z1, _⟩
      · refine plusF_out (fun u hu => ?_) fun ⟨j, fj, y1, y2, y3⟩ => ?_
        · rw [sep.hF i fi h1 z2 a ha] at hu
          cases hu
        · have ne : i ≠ j := fun e => by
            rw [e, y1] at h1
            cases h1
          exact sep.apart i j fi fj ne h1 z2 y2 a ha y3
      · rw [h1] at z1
        cases z1
    · rcases zfr_get h2 zl with ⟨_, z2⟩ | ⟨z1, _⟩
      · exact sep.nf i fi h1 z2
      · rw [h1] at z1
        cases z1
  · have zl : frs.length = kinds.length := by rw [hlen.2, hl]
    have mm : ∀ a, MutA kinds (zfr kinds frs) a → MutA kinds frs a := by
      rintro a ⟨i, f, h1, h2, h3⟩
      rcases zfr_get h2 zl with ⟨_, z2⟩ | ⟨z1, _⟩
      · exact ⟨i, f, h1, z2, h3⟩
      · rw [h1] at z1
        cases z1
    unfold zF at po
    cases q : Fx (zA kinds ds) with
    | stuck => rw [q] at po; exact po.elim
    | exc c x ms => rw [q] at po; exact po.elim
    | ret d ms =>
      rw [q] at po
      simp only [] at po
      by_cases nz : (noFz d && noFzL ms) = true
      · rw [if_pos nz] at po
        rw [Bool.and_eq_true] at nz
        intro F' H' v fr nfs fe rp mu own
        have sub : ∀ a u, F a = some u → isFrzB u = false → F' a = some u := fun a u h1 h2 => fe.sub a u (plusF_sub h1 h2)
        have hasF : ∀ a u, F a = some u → Has H' a u := fun a u h1 => by
          cases z : isFrzB u with
          | false => exact fe.has a u (sub a u h1 z)
          | true =>
            obtain ⟨o, w, rfl⟩ := isFrzB_of z
            have hh : H a = some (.frz o w) := by
              rcases hs a _ h1 with y | ⟨_, y⟩
              · exact y
              · cases y
            refine .inl (fe.keep a _ hh fun m => ?_)
            obtain ⟨i, f, y1, y2, y3⟩ := mm a m
            rw [sep.hF i f y1 y2 a y3] at h1
            cases h1
        have nF : ∀ a, (H a = none ∨ MutA kinds (zfr kinds frs) a) → F a = none := fun a h1 => by
          cases z : F a with
          | none => rfl
          | some u =>
            rcases h1 with h1 | h1
            · exact ((hs a u z).ne h1).elim
            · obtain ⟨i, f, y1, y2, y3⟩ := mm a h1
              rw [sep.hF i f y1 y2 a y3] at z
              cases z
        refine po F H' v fr nfs ⟨fun a o h1 h2 => fe.keep a o h1 fun m => h2 (mm a m), fun _ _ h => h, fun a h1 h2 => absurd h1 h2, fe.dom, hasF, fe.nofz⟩ (rep_noFz d v fr nz.1 rp) ⟨repA_noFz nz.2 mu.rep, mu.apart, fun f hf a ha => ?_⟩ fun a ha => ?_
        · obtain ⟨y1, y2⟩ := mu.own f hf a ha
          exact ⟨y1.imp id (mm a), nF a y1⟩
        · obtain ⟨y1, y2, y3⟩ := own a ha
          exact ⟨y1.imp id (mm a), nF a y1, y3⟩
      · rw [if_neg nz] at po
        exact po.elim
theorem fnOk_z {P : Program} {w : World} {mg : Str → Option Value} {base : Heap} {CX : CXT} {k : Nat} {f : Addr} {fd : FuncData} {ps : List Str} {kinds : List Bool} {Fx : List D → Fo} (h : FnOk P w K mg base CX k f fd ps (spD K kinds Fx)) : FnOk P w K mg base CX k f fd ps (spD K kinds (zF kinds Fx)) :=
  h.imp fun vs H Q E q => spD_z q
end
end DL
namespace DL
open PySem PySem.Spec L2
def fFz (i : Nat) : FE := fun env => match env[i]? with
  | some (.own d) => .ok d.fz (putE i (.own d.fz) (putE i .dead env))
  | some (.bor _ d) => if d.frz = true then .ok d env else .stuck
  | _ => .stuck
theorem esim_fz {K : PySem.W.Frag} {W : WX} {i : Nat} : ESim K W true .frz (tVar i) (fFz i) := fun Z F H env σ fp Q r hq => by
  have s := r.slot i
  unfold SlotR at s
  unfold fFz at hq
  cases q : env[i]? with
  | none => rw [q] at hq; exact hq.elim
  | some t =>
    rw [q] at s hq
    have hi : i < env.length := (List.getElem?_eq_some_iff.mp q).1
    cases t with
    | dead => exact hq.elim
    | own d =>
      obtain ⟨v, h1, h2⟩ := s
      have ho : isOwn env i := ⟨d, q⟩
      have r1 : R K Z F H (putE i .dead env) σ (fset fp i []) := r.put hi (fun _ _ => rfl) rfl r.pin trivial
      have e1 : Ev true F H env fp F H (putE i .dead env) (fset fp i []) := (Ev.refl (Z := Z) false rfl).put hi (fun d h => by cases h) fun d h => by cases h
      obtain ⟨F', r2, sub, new, rp⟩ := r1.frzV (d := d) (v := v) (fr := fp i) h2 fun a ha => ⟨fun j hj hm => by
        by_cases hji : j = i
        · subst hji
          rw [fset_same] at hm
          cases hm
        · rw [fset_ne hji] at hm
          have hold' : hold env j := by
            rcases hj with z | z
            · exact .inl ((isOwn_put hji).mp z)
            · exact .inr ((isLk_put hji).mp z)
          exact r.sep i j (Ne.symm hji) (.inl ho) hold' a ha hm, ⟨r.sepB i (.inl ho) a ha, r.hF i (.inl ho) a ha⟩, r.nf i ho a ha⟩
      have hi2 : i < (putE i .dead env).length := by rw [putE_length]; exact hi
      have r3 : R K Z F' H (putE i (.own d.fz) (putE i .dead env)) σ (fset (fset fp i []) i []) := r2.put hi2 (fun _ _ => rfl) rfl r2.pin ⟨⟨v, h1, rp⟩, fun _ _ _ a ha => (nomatch ha), fun a ha => nomatch ha⟩
      have e2 : Ev true F H env fp F H (putE i (.own d.fz) (putE i .dead env)) (fset (fset fp i []) i []) := e1.put hi2 (fun _ _ a ha => nomatch ha) fun d h => by cases h
      exact ⟨v, h1, hq F' H _ v [] ⟨e2.keep, sub, fun a h3 h4 => .inr ⟨rfl, i, ho, new a h3 h4⟩, e2.own, e2.lks, e2.nofz, e2.dom, fun z => by cases z⟩ r3 rp rfl⟩
    | bor m d =>
      have key : ∃ v, σ[i]? = some (some v) ∧ Rep K F H d v (fp i) := by
        cases m with
        | none =>
          obtain ⟨v, h1, h2, _⟩ := s
          exact ⟨v, h1, h2⟩
        | some m =>
          obtain ⟨v, h1, h2, _⟩ := s
          exact ⟨v, h1, h2⟩
      obtain ⟨v, h1, h2⟩ := key
      by_cases z : d.frz = true
      · simp only [z] at hq
        have e := Rep.frz_nil d v _ z h2
        rw [e] at h2
        exact ⟨v, h1, hq F H fp v [] (Ev.refl (Z := Z) _ rfl) r h2 rfl⟩
      · simp only [z] at hq
        exact hq.elim
theorem de_fz {X : Cx} {W : WX} (i : Nat) {x : Str} {pos : Pos} (hN : X.N[i]? = some x := by rfl) (hv : Vis X.env.scope x := by first | exact Or.inl rfl | exact Or.inr (Or.inl rfl) | exact Or.inr (Or.inr rfl)) (hd : (x == ("__debug__" : Str)) = false := by decide)
    (hcd : (x == ("__classdict__" : Str)) = false := by decide) : DE X W true .frz (.Name x pos) (fFz i) := ⟨_, pe_var hN hv hd hcd, esim_fz⟩
end DL
namespace DL
open PySem PySem.Spec L2
theorem get_app {α : Type} {l r : List α} {i : Nat} {x : α} (h : l[i]? = some x) : (l ++ r)[i]? = some x := by
  rw [List.getElem?_append_left (List.getElem?_eq_some_iff.mp h).1]
  exact h
theorem FC_of {fa : List He.Fa} {K : PySem.W.Frag} {h : Heap} {mg : Str → Option Value} (X : K.In h) (G : h.Ns mainGlobals mg) (ok : ∀ (i : Nat) (f : He.Fa), fa[i]? = some f → f.ok K = true) : FC fa K mg :=
  ⟨ok, fun x e => He.glo_ok X G e, fun x e => He.free_ok X G e, fun x i e => He.int_ok X G e, fun x z e => He.str_ok X G e⟩
theorem cx_false {P : Program} {w : World} {o : List Env} {H : Hp} {s : Shared} {e : Value} {s' : Shared} (z : L2.CX P w o H s (fun _ _ _ => False) e s') : False := by
  obtain ⟨_, _, _, _, _, _, _, _, _, _, _, _, z⟩ := z
  exact z
def CXw (P : Program) : CXT := fun o H s E e s' => ∃ w : World, L2.CX P w o H s E e s'
theorem cxw_false {P : Program} {o : List Env} {H : Hp} {s : Shared} {e : Value} {s' : Shared} (z : CXw P o H s (fun _ _ _ => False) e s') : False := by
  obtain ⟨w, z⟩ := z
  exact cx_false z
theorem fnOk_w {P : Program} {w : World} {K : PySem.W.Frag} {mg : Str → Option Value} {base : Heap} {k : Nat} {f : Addr} {fd : FuncData} {ps : List Str} {sp : Sp} (h : FnOk P w K mg base (L2.CX P w) k f fd ps sp) : FnOk P w K mg base (CXw P) k f fd ps sp :=
  ⟨h.len, fun A outer s H args us vs Q E hr he hb hv hs => codeAny_mono (h.run A outer s H args us vs Q E hr he hb hv hs) fun r s' z => by
    cases r with
    | ok fl => cases fl <;> exact z
    | error e => exact ⟨w, z⟩⟩
theorem spD_law {K : PySem.W.Frag} {Fx : List D → Fo} {H : Hp} {a : Addr} {ns : List Int} (hO : Only H) (hS : SqL K H a (ns.map V.int)) (h : Fx [.scr ns] = .ret (.bl true) []) : spD K [false] Fx [.ref a] H (fun v _ => v = .bl true) (fun _ _ _ => False) := by
  have post : ∀ (F : Hp) (M : Addr → Prop), FPost K F H [false] [.ref a] M (fun v _ => v = .bl true) (fun _ _ _ => False) (Fx [.scr ns]) := fun F M => by
    rw [h]
    intro F' H' v fr nfs _ rp _ _
    exact rp.1
  rcases hS with hS | hS
  · rcases hS with hS | ⟨o, hS⟩
    · rcases hO a with z | ⟨o, xs, z⟩
      · rw [z] at hS; cases hS
      · rw [z] at hS; cases hS
    · refine ⟨fun b => if b = a then some (.frz o (.lst (ns.map V.int))) else none, [.scr ns], [[]], fun b u hb => ?_, ⟨⟨a, rfl, rfl, .inl ⟨_, if_pos rfl, .inl ⟨o, rfl⟩⟩⟩, trivial⟩, rfl, ⟨fun i j fi fj ne h1 => ?_, fun i fi h1 => ?_, fun i fi h1 => ?_⟩, post _ _⟩
      · dsimp only at hb
        by_cases e : b = a
        · rw [if_pos e] at hb
          cases hb
          rw [e]
          exact .inl hS
        · rw [if_neg e] at hb
          cases hb
      all_goals
        cases i with
        | zero => cases h1
        | succ i => simp at h1
  · refine ⟨fun _ => none, [.scr ns], [[]], fun b u hb => (nomatch hb), ⟨⟨a, rfl, rfl, .inr hS⟩, trivial⟩, rfl, ⟨fun i j fi fj ne h1 => ?_, fun i fi h1 => ?_, fun i fi h1 => ?_⟩, post _ _⟩
    all_goals
      cases i with
      | zero => cases h1
      | succ i => simp at h1
end DL
namespace DL
open PySem PySem.Spec PySem.Calls PyProof.Rows L2 Builtin Builtin.ObjectAttr
inductive XB where
  | ve | le | re | ie
  deriving DecidableEq
def xbT : XB → List Value
  | .ve => [.type "ValueError", .type "Exception", .type "BaseException", .type "object"]
  | .le => [.type "LookupError", .type "Exception", .type "BaseException", .type "object"]
  | .re => [.type "RuntimeError", .type "Exception", .type "BaseException", .type "object"]
  | .ie => [.type "IndexError", .type "LookupError", .type "Exception", .type "BaseException", .type "object"]
def xbN : XB → String
  | .ve => "ValueError.__new__"
  | .le => "LookupError.__new__"
  | .re => "RuntimeError.__new__"
  | .ie => "IndexError.__new__"
structure XC (K : PySem.W.Frag) (C : Addr) (b : XB) : Prop where
  q : PySem.W.excInitIn K C (xbT b) (xbN b) = true
  ov : PySem.W.excOver K C (xbT b) = true
  sa : PySem.W.findIn K (.ref C) "__setattr__" = some (some (.builtin "object.__setattr__"))
  rd : XfC K C
  ty : PySem.W.typeIn K (.ref C) = some (.type "type")
  kp : PySem.W.keepIn K (.ref C) = true
def noF (K : PySem.W.Frag) (C : Addr) (f : Str) : Bool := decide (PySem.W.findIn K (.ref C) f = some none)
theorem XC.raises {X : Cx} {C : Addr} {b : XB} (T : XC X.K C b) : Raises X (.ref C) := raises_own T.rd.exC T.ty
section
variable {X : Cx} {pins : List (Addr × Obj)} {σ : L2.St} {H : Hp} {s : Shared} {a C dx : Addr} {b : XB} {f : Str} {y : V} {u : Value} {fs : List (Str × V)} {Q : Unit → Shared → Prop} {E : Value → Shared → Prop} {A : Around}
end
def tXst (K : PySem.W.Frag) (f : Str) (to te : TE) : TS := fun D_ σ H => te σ H fun y H1 => to σ H1 fun x H2 => ∃ (a C : Addr) (b : XB), x = .ref a ∧ XC K C b ∧ PySem.W.findIn K (.ref C) f = some none ∧
  ((H2 a = some (exo a C none) ∧ ∀ dx, H2 dx = none → dx ≠ a → D_.nx σ (upd (upd H2 dx (exd dx [(f, y)])) a (exo a C (some dx)))) ∨
    ∃ (dx : Addr) (fs : List (Str × V)), H2 a = some (exo a C (some dx)) ∧ H2 dx = some (exd dx fs) ∧ fs.length ≤ 900 ∧ D_.nx σ (upd H2 dx (exd dx ((f, y) :: fs))))
inductive XSrc where
  | c (x : Str) | p (j : Nat)
def XSrc.val (vs : List V) : XSrc → V
  | .c x => .str x
  | .p j => vs.getD j .non
def xvals (l : List (Str × XSrc)) (vs : List V) : List (Str × V) := l.map fun q => (q.1, q.2.val vs)
def spXi (n : Nat) (C : Addr) (l : List (Str × XSrc)) : Sp := fun vs H Q _ => ∃ (a : Addr) (ws : List V), vs = .ref a :: ws ∧ ws.length = n ∧ H a = some (exo a C none) ∧
  ∀ H' dx, H dx = none → dx ≠ a → H' a = some (exo a C (some dx)) → H' dx = some (exd dx (xvals l ws)) → (∀ b, b ≠ a → b ≠ dx → H' b = H b) → Q .non H'
end DL
namespace DL
open PySem PySem.Spec PySem.Calls PyProof.Rows L2
structure XT (X : Cx) (t : Expr) (cs : List Value) : Prop where
  run : ∀ (a : Addr) (pn : List (Addr × Obj)) (σ : L2.St) (H : Hp) (s : Shared) (cls : Value) (b : Bool) (Q : Bool → Shared → Prop) (E : Value → Shared → Prop), Inv (X.suite a pn) [] σ H s → PySem.W.Looks (model X.prog X.w) s.heap (typeOf (.ref a)) cls → PySem.W.exmAny X.K cls cs = some b →
    (∀ h', (∀ q o, s.heap.get? q = some o → h'.get? q = some o) → Q b { s with heap := h' }) → wpAny (model X.prog X.w) (X.A.mark (some (.ref a))) (eval t X.env) (fun c s1 => wpAny (model X.prog X.w) (X.A.mark (some (.ref a))) (excMatches (.ref a) c) Q E s1) E s
section
variable {X : Cx} {x x1 x2 x3 : Str} {c c1 c2 c3 : Value} {p p1 p2 p3 pos : Pos} {kk : Nat}
theorem names_ld {a : Addr} {pn : List (Addr × Obj)} {σ : L2.St} {H : Hp} {s : Shared} {Q : Value → Shared → Prop} {E : Value → Shared → Prop} (n : Names X x c) (I : Inv (X.suite a pn) [] σ H s) (q : Q c s) : wpAny (model X.prog X.w) (X.A.mark (some (.ref a))) (eval (.Name x p) X.env) Q E s := by
  obtain ⟨g, d, m | ⟨m, v, e⟩⟩ := n
  · exact ld_glob (X := X.suite a pn) I g m q d
  · exact ld_blt (X := X.suite a pn) I g m v q e d
theorem XT.one (n : Names X x c) : XT X (.Name x p) [c] := ⟨fun a pn σ H s cls b Q E I L e q => by
  obtain ⟨b1, d1, e1, e2, rfl⟩ := PySem.W.exmAny_cons e
  cases e2
  rw [Bool.or_false] at q
  exact names_ld n I ((PySem.W.exm_one (M := model X.prog X.w) I.kIn L e1).here (q s.heap fun _ _ z => z))⟩
theorem XT.two (n1 : Names X x1 c1) (n2 : Names X x2 c2) : XT X (.Tuple [.Name x1 p1, .Name x2 p2] kk pos) [c1, c2] := ⟨fun a pn σ H s cls b Q E I L e q => by
  refine wpAny_Tuple (wpAny_items_cons (names_ld n1 I (wpAny_items_cons (names_ld n2 I (wpAny_items_nil ⟨by size_fits, ?_⟩)))))
  have up : ∀ q o, s.heap.get? q = some o → (s.heap.push { cls := .type "tuple", data := .seq [c1, c2].toArray }).get? q = some o := fun _ _ z => Heap.get?_push_of_some _ z
  exact (PySem.W.exm_tup2 (I.kIn.keeps up) (L.keeps up) (Heap.get?_push_size s.heap rfl) e).here (q _ up)⟩
end
structure HE where
  cs : List Value
  nm : Option Nat
  ts : Addr → Value → Option Addr → TS
inductive HdsG (X : Cx) : List ExceptHandler → List HE → Prop
  | nil : HdsG X [] []
  | plain {t : Expr} {cs : List Value} {ts : Addr → Value → Option Addr → TS} {b₀ : Stmt} {suite : List Stmt} {pos' : Pos} {hds : List ExceptHandler} {l : List HE} (hc : XT X t cs)
      (hsu : ∀ (a : Addr) (oe : Obj) (cls : Value) (d : Option Addr) (pn : List (Addr × Obj)), Zc cls d oe → (∃ vs, oe.data = .fields vs) → PSs (X.suite a ((a, oe) :: pn)) (b₀ :: suite) (ts a cls d)) (r : HdsG X hds l) :
      HdsG X (.ExceptHandler (some t) none (b₀ :: suite) pos' :: hds) (⟨cs, none, ts⟩ :: l)
  | named {t : Expr} {cs : List Value} {i : Nat} {n : Str} {ts : Addr → Value → Option Addr → TS} {b₀ : Stmt} {suite : List Stmt} {pos' : Pos} {hds : List ExceptHandler} {l : List HE} (hc : XT X t cs) (hN : X.N.Nodup) (hi : X.N[i]? = some n) (hk : X.env.kindOf n = some .local)
      (hsu : ∀ (a : Addr) (oe : Obj) (cls : Value) (d : Option Addr) (pn : List (Addr × Obj)), Zc cls d oe → (∃ vs, oe.data = .fields vs) → PSs (X.suite a ((a, oe) :: pn)) (b₀ :: suite) (ts a cls d)) (r : HdsG X hds l) :
      HdsG X (.ExceptHandler (some t) (some n) (b₀ :: suite) pos' :: hds) (⟨cs, some i, ts⟩ :: l)
section
variable {X : Cx} {body : List Stmt} {h₀ : ExceptHandler} {hds : List ExceptHandler} {l : List HE} {pos : Pos} {tb : WX → TS} {Wout : WX}
end
end DL
namespace DL
open PySem PySem.Spec L2
def XSrc.te : XSrc → TE
  | .c x => tC (.str x)
  | .p j => tVar (j + 1)
inductive XiOk (X : Cx) : List Stmt → List (Str × XSrc) → Prop
  | one {st : Stmt} {f : Str} {s : XSrc} (h : PS X st (tXst X.K f (tVar 0) s.te)) : XiOk X [st] [(f, s)]
  | cons {st : Stmt} {f : Str} {s : XSrc} {sts : List Stmt} {l : List (Str × XSrc)} (h : PS X st (tXst X.K f (tVar 0) s.te)) (r : XiOk X sts l) : XiOk X (st :: sts) ((f, s) :: l)
def XSrc.lt (n : Nat) : XSrc → Bool
  | .c _ => true
  | .p j => decide (j < n)
structure XMk (P : Program) (w : World) (K : PySem.W.Frag) (mg : Str → Option Value) (base : Heap) (c : Str) (n : Nat) (l : List (Str × XSrc)) : Prop where
  ex : ∃ (b : XB) (fd : FuncData) (ps : List Str), XC K (He.ga K c) b ∧ PySem.W.findIn K (.ref (He.ga K c)) "__init__" = some (some (.ref (He.ma K (He.ga K c) "__init__"))) ∧ PySem.W.typeIn K (.ref (He.ma K (He.ga K c) "__init__")) = some (.type "function") ∧
    FnOk P w K mg base (L2.CX P w) 1 (He.ma K (He.ga K c) "__init__") fd ps (spXi n (He.ga K c) l) ∧ L2.Binds K fd ps []
  nz : n ≤ 1000
  sr : (l.all fun q => q.2.lt n) = true
def srcD (ds : List D) : XSrc → D
  | .c x => .str x
  | .p j => ds.getD j .non
def xdD (l : List (Str × XSrc)) (ds : List D) : D := .node false (.exd (l.map (·.1))) (l.map fun q => srcD ds q.2)
def fRaise (c : Str) (n : Nat) (l : List (Str × XSrc)) (fa : FA) : FS := fun env => (fa env).so fun ds e => if ds.length = n ∧ frzL ds = true then .exc c (xdD l ds) e else .stuck
section
variable {X : Cx} {W : WX} {ε : Bool} {ms : List Nat} {c : Str} {n kc : Nat} {l : List (Str × XSrc)} {ks : List Kd} {fa : FA} {p pos pos' : Pos} {e : Expr} {es : List Expr}
end
end DL
namespace DL
open PySem PySem.Spec PyProof.Rows L2 LamX
inductive LamStep (P : Addr) (q : Str) (H : Hp) (ps : Array Value) : Hp → Addr → Prop
  | hit {c : Addr} (pos : Pos) (h : codeAmong pos ps.toList = some (.ref c)) : LamStep P q H ps H c
  | new {c : Addr} {more : Array Value} (nc : H c = none) (ok : TriplesOk (ps ++ more).toList) (am : ∀ pos cv, codeAmong pos (ps ++ more).toList = some cv → codeAmong pos ps.toList = some cv ∨ cv = .ref c) :
      LamStep P q H ps (upd (upd H P (.tbl (ps ++ more))) c (CodeO c q)) c
section
variable {X : Cx} {pins : List (Addr × Obj)} {σ : L2.St} {H : Hp} {s : Shared}
end
end DL
namespace DL
open PySem PySem.Spec PyProof.Rows L2 LamX
section
variable {X : Cx} {a : Addr} {oe : Obj} {cls : Value} {d : Option Addr} {pn : List (Addr × Obj)}
end
def fldB (K : PySem.W.Frag) (c : Str) (fns : List Str) : Bool := xfB K (He.ga K c) && fns.all fun f => noF K (He.ga K c) f
structure FSuite (X : Cx) (i j : Nat) (suite : List Stmt) (fl : Str → Option (List Str)) (ts : Addr → Value → Option Addr → TS) : Prop where
  ps : ∀ (a : Addr) (oe : Obj) (cls : Value) (d : Option Addr) (pn : List (Addr × Obj)), Zc cls d oe → (∃ vs, oe.data = .fields vs) → PSs (X.suite a ((a, oe) :: pn)) suite (ts a cls d)
  rd : ∀ (D_ : Ends) (σ : L2.St) (H : Hp) (a dd : Addr) (c : Str) (fns : List Str) (fs : List (Str × V)) (vs : List V), fl c = some fns → fldB X.K c fns = true → H dd = some (.xd fs) → (fns.map fun f => fs.lookup f) = vs.map some → vs.length ≤ sizeLine → σ[i]? = some (some (.ref a)) →
    (∀ p, H p = none → D_.nx (σ.set j (some (.ref p))) (upd H p (.tup vs))) → ts a (.ref (He.ga X.K c)) (some dd) D_ σ H
section
variable {X : Cx} {i j : Nat} {fns fns2 : List Str} {es es2 : List Expr} {k' k2' : Nat} {n x C : Str} {p' pos pos2 pos3 : Pos}
end
inductive FHs (X : Cx) (i j : Nat) : List ExceptHandler → List (List Str × (Str → Option (List Str))) → Prop
  | nil : FHs X i j [] []
  | cons {t : Expr} {cs : List Str} {n : Str} {fl : Str → Option (List Str)} {ts : Addr → Value → Option Addr → TS} {b₀ : Stmt} {suite : List Stmt} {pos' : Pos} {hds : List ExceptHandler} {l : List (List Str × (Str → Option (List Str)))}
      (hc : XT X t (cs.map fun y => .ref (He.ga X.K y))) (hN : X.N.Nodup) (hi : X.N[i]? = some n) (hk : X.env.kindOf n = some .local) (hs : FSuite X i j (b₀ :: suite) fl ts) (r : FHs X i j hds l) : FHs X i j (.ExceptHandler (some t) (some n) (b₀ :: suite) pos' :: hds) ((cs, fl) :: l)
end DL
namespace DL
open PySem PySem.Spec PyProof.Rows L2 LamX
section
variable {P : Program} {w : World} {K : PySem.W.Frag} {mg : Str → Option Value} {base : Heap} {x qual : Str} {params : Arguments} {body : List Stmt} {scope : Scope} {dvs : List V} {kws : List (Str × V)} {f : Addr} {fd : FuncData}
end
def fldD (tab : List (Str × List Str)) (c : Str) : D → Option D
  | .node false (.exd fs) xs => (tab.lookup c).bind fun fns => (fns.mapM fun f => (fs.zip xs).lookup f).map fun ds => .node false .tup ds
  | _ => none
def fAsk (i : Nat) (T0 : List (He.Defn × Str)) (tab : List (Str × List Str)) (fb : FE) : FE := fun env => match env[i]? with
  | some (.own (.tscr ns T)) => if T = T0 then (match fb (backM [i] [.tscr ns T] env) with
    | .ok _ e => .ok .non e
    | .exc c x e => optR (fldD tab c x) e
    | .stuck => .stuck) else .stuck
  | _ => .stuck
end DL
namespace DL
open PySem PySem.Spec PyProof.Rows L2 LamX
end DL
namespace DL
open PySem PySem.Spec PyProof.Rows L2
end DL
namespace DL
open PySem PySem.W PySem.Calls PyProof.Rows HandSHeadRun
theorem map_two {α β γ δ : Type _} {x : Option α} {f : α → β} {g : α → γ} {h : α → δ} {b : β} {c : γ} {d : δ} (h1 : x.map (fun s => (f s, g s)) = some (b, c)) (h2 : x.map h = some d) : x.map (fun s => (f s, g s, h s)) = some (b, c, d) := by
  cases x with
  | none => cases h1
  | some s =>
    have e1 := Option.some.inj h1
    have e2 := Option.some.inj h2
    have e3 : f s = b := congrArg Prod.fst e1
    have e4 : g s = c := congrArg Prod.snd e1
    show some (f s, g s, h s) = some (b, c, d)
    rw [e3, e4, e2]
theorem run_two {r : OpenRow} {q : Program} {H : Hook} {ob : SharedT → H.α} {M : Nat} {loose : List PySem.Str} {w : World} (h1 : RunA r q M loose w) (h2 : RunB r H ob M w) : RunEq r q H ob M loose w :=
  fun os => map_two (h1 os) (h2 os)
end DL
namespace DL
open PySem PySem.Spec L2
def enumD (xs : List D) : List D := xs.mapIdx fun i x => .node false .tup [.int (i : Nat), x]
def iEnumD (k : Kd) (fa : FA) : Evn → Rs (Md × List D × Bool) := fun env => (fa env).bind fun ds e1 => match ds with
  | [d] => (match walkD k d e1 with
    | some (md, .node _ .lst xs) => if frzL xs = true then .ok (md, enumD xs, false) e1 else .stuck
    | _ => .stuck)
  | _ => .stuck
section
variable {X : Cx} {K : PySem.W.Frag} {W : WX} {ε : Bool} {k : Kd} {F H F1 H1 : Hp} {env env1 : Evn} {fp fp1 : Fp} {Z : Zst} {σ σ1 : L2.St}
theorem frz_mem {xs : List D} {i : Nat} {d : D} (h : frzL xs = true) (e : xs[i]? = some d) : d.frz = true := by
  rw [frzL_all, List.all_eq_true] at h
  exact h d (List.mem_of_getElem? e)
theorem io_enum {o : Bool} {xs : List D} {a : Addr} {fr : List Addr} {md : Md} (h : Wlk Z env1 fp1 fr md) (r1 : R K Z F1 H1 env1 σ1 fp1) (rp : Rep K F1 H1 (.node o .lst xs) (.ref a) fr) (hz : frzL xs = true) : IOk K Z F1 H1 env1 fp1 (Ite K a) (enumD xs) md where
  go := fun F H env fp σ i d ev r hb hi => by
    unfold enumD at hi
    rw [List.getElem?_mapIdx, Option.map_eq_some_iff] at hi
    obtain ⟨xd, hi, rfl⟩ := hi
    obtain ⟨a', vs, fq, ea, ha, rl, sb⟩ := (h.rep r1 ev rp).lst r.sub
    cases ea
    obtain ⟨x, fc, e1, e2, e3⟩ := rl.get _ _ _ i xd hi
    obtain rfl : fc = [] := Rep.frz_nil xd x fc (frz_mem hz hi) e2
    refine ⟨⟨vs, x, .inl (.inl ha), e1⟩, fun y H' ⟨T, x', ey, nT, eH, hy⟩ => ?_⟩
    subst ey eH
    have q := hy vs (.inl (.inl ha))
    rw [e1] at q
    cases q
    have gr := Grow.updF (o := .tup [.int ((i : Nat) : Int), x]) r.sub nT rfl
    refine ⟨_, [], gr, ?_, fun H0 env0 fp0 => ?_⟩
    · rw [Rep]
      refine ⟨T, .tup [.int ((i : Nat) : Int), x], [.int ((i : Nat) : Int), x], rfl, rfl, upd_same, rfl, ?_⟩
      exact RepL.mk (f1 := []) (f2 := []) (fun a z => nomatch z) (.plain rfl) (RepL.mk (f1 := []) (f2 := []) (fun a z => nomatch z) (e2.grow gr) ⟨rfl, rfl⟩)
    · cases md with
      | own => exact fun b z => nomatch z
      | bor m =>
        cases m with
        | none => exact fun b z => nomatch z
        | some m => exact ⟨.inr (lkD_isLk hb), fun b z => nomatch z⟩
  stop := fun F H env fp σ i ev r hi => by
    unfold enumD at hi
    rw [List.length_mapIdx] at hi
    obtain ⟨a', vs, fq, ea, ha, rl, sb⟩ := (h.rep r1 ev rp).lst r.sub
    cases ea
    exact ⟨vs, .inl (.inl ha), by rw [rl.len]; exact hi⟩
theorem di_enum {elts : List Expr} {kk : Nat} {e : Expr} {fa : FA} {p pos tpos : Pos} (hgl : Gl X "enumerate") (hmg : X.mg "enumerate" = none) (ha : DA X W ε [k] [e] fa) (hs : starEach [e] X.env = [(false, eval e X.env)] := by rfl) :
    DI X W ε (.Tuple elts kk tpos) (.Call (.Name "enumerate" p) [e] [] pos) (iEnumD k fa) := by
  obtain ⟨t1, p1, s1⟩ := ha.ex
  refine ⟨_, pi_enum hgl hmg p1 hs, fun Z F H env σ fp Rq r h => s1 Z F H env σ fp _ r (Post.bind h id id fun ds e1 h1 F1 H1 fp1 vs frs ev r1 rep ko => ?_)⟩
  split at h1
  · rename_i d
    obtain ⟨v, ws, f, fs, rfl, rfl, rp, h3⟩ := rep.inv
    obtain ⟨rfl, rfl⟩ := h3.inv0
    have ko' := ko.1
    cases qw : walkD k d e1 with
    | none => rw [qw] at h1; exact h1.elim
    | some y =>
      obtain ⟨md, d'⟩ := y
      rw [qw] at h1
      have rh := walk_hold r ev r1 rp ko' qw
      obtain ⟨F2, fr2, hF, r2, ev2, rp2, wk⟩ := walk_ok r ev r1 rp ko' qw
      split at h1
      · rename_i md' o xs he
        cases he
        by_cases hz : frzL xs = true
        · rw [if_pos hz] at h1
          obtain ⟨a, vs, fq, rfl, ha, rl, sb⟩ := rp2.lst r2.sub
          exact ⟨a, vs, rfl, .inl (.inl ha), h1 F2 H1 fp1 (Ite X.K a) none ev2 r2 rh trivial fun Z2 env2 fp2 σ2 hB hg r3 => io_enum (wk.of hB hg) r3 rp2 hz⟩
        · rw [if_neg hz] at h1
          exact h1.elim
      · exact h1.elim
  · exact h1.elim
end
end DL
namespace DL
open PySem PySem.Spec L2
section
variable {X : Cx} {W : WX} {ε : Bool} {i : Nat} {o e : Expr} {p : FP} {fe : FE} {cpos apos : Pos} {k : Kd}
end
end DL
namespace DL
open PySem PySem.Spec L2
section
variable {K : PySem.W.Frag} {W : WX} {ε1 ε2 : Bool} {k : Kd} {ks : List Kd}
end
section
variable {X : Cx} {W : WX} {ε1 ε2 ε3 : Bool} {k1 k2 k3 : Kd} {o e f : Expr} {fo fe ff : FE} {apos cpos : Pos}
end
end DL
namespace DL
open PySem PySem.Spec L2
section
variable {X : Cx} {W : WX} {ε : Bool} {k : Kd} {tg iter kx vx c : Expr} {ifs : List Expr} {scope : Scope} {own : List (Str × Nat)} {pos : Pos} {fI : Evn → Rs (Md × List D × Bool)} {gD : Md → D → Evn → Option Evn} {ft : FT} {fe : FE} {n : Nat} {vs : List Nat} {ms : List Nat}
end
end DL
namespace DL
open PySem PySem.Spec PyProof.Rows L2
section
variable {X : Cx} {d : Addr} {es : Array DictEntry} {n : Nat}
theorem kd_get2 {pins : List (Addr × Obj)} {σ : L2.St} {H : Hp} {s : Shared} {z : Str} {t : Tok} {r : Option Value} {rv : Value} {Q : Value → Shared → Prop} {E : Value → Shared → Prop} (D : KDict X.K X.w d es n) (I : Inv X pins σ H s) (e : PySem.W.nsIn X.K d z = some r) (h : ∀ s', Inv X pins σ H s' → Q (r.getD rv) s') :
    wpAny (model X.prog X.w) X.A (call (.builtin "dict.get") [.ref d, .str z t, rv]) Q E s :=
  call_meetsIn PySem.F.slot_dict_get (kd_type D I) PySem.F.entry_dict_get (PySem.F.args_dict_get_3 _ _ _) (meets_dict_get_default (PySem.strKind X.prog X.w) d (PySem.strKind_is X.prog X.w z t) D.low rv) ⟨_, PySem.W.mapOf_K (prog := X.prog) I.kIn D.at_ D.lit, by
    rw [PySem.W.find_K D.at_ e]
    exact h _ (I.tok _)⟩
end
section
variable {X : Cx} {W : WX} {ε1 ε2 : Bool} {k1 k2 : Kd} {e f : Expr} {fe ff : FE} {p apos cpos : Pos}
end
end DL
namespace DL
open PySem PySem.Spec L2
section
variable {K : PySem.W.Frag}
end
end DL
namespace DL
open PySem PySem.Spec PyProof.Rows L2
theorem RepL.rep0 {K : PySem.W.Frag} {F H : Hp} {xs : List D} {vs : List V} (h : RepL K F H xs vs []) : ∀ n : Nat, RepL K F H (List.replicate n xs).flatten (List.replicate n vs).flatten []
  | 0 => ⟨rfl, rfl⟩
  | n + 1 => by
    rw [List.replicate_succ, List.replicate_succ, List.flatten_cons, List.flatten_cons]
    exact h.append0 (RepL.rep0 h n)
end DL
namespace DL
open PySem PySem.Spec PyProof.Rows L2 LamX
section
variable {K : PySem.W.Frag} {W : WX} {F H : Hp} {env : Evn} {fp : Fp} {Z : Zst} {D_ : Ends} {i : Nat} {o : So}
end
section
variable {X : Cx} {pins : List (Addr × Obj)} {σ : L2.St} {H : Hp} {s : Shared} {W : WX}
theorem CCx.keep {k : Nat} {pn : List (Addr × Obj)} (c : CCx k X W) : CCx k (X.tr (X.pn ++ pn) X.xe) W :=
  ⟨fun u s' ⟨a, B, sI, pins, σ, H, cls, d, e, I, nb, up, sky, na, os, ag, w⟩ => c.tk u s' ⟨a, B, sI, pn, σ, H, cls, d, e, I.ofTry I.ok.ofTry, nb, up, sky, na, os, ag, w⟩, c.rm⟩
theorem BodyCx.keep {K : PySem.W.Frag} {k : Nat} {pn : List (Addr × Obj)} (c : BodyCx K k X W) : BodyCx K k (X.tr (X.pn ++ pn) X.xe) W := ⟨c.toCCx.keep, c.hp⟩
end
end DL
namespace DL
open PySem PySem.Spec PyProof.Rows L2 LamX
section
variable {X : Cx} {W : WX} {ε : Bool} {kd : Kd} {x y q : Str} {i k kc : Nat} {f c : Addr} {pm ctv : Value} {params : Arguments} {body : Expr} {scope : Scope} {fb : FE} {p p1 p2 py pos : Pos}
end
end DL
namespace DL
open PySem PySem.Spec PyProof.Rows
section
variable (as : (Addr → Option Obj) → List Addr) (fa : List He.Fa) (fn : List He.DefD) (ts : List He.Tab) (tf : List He.Defn) (ex : PySem.W.Frag → Bool)
theorem obsY_eq {g : Addr → Option Obj} {s : Shared} (h : ∀ a, g a = s.heap.get? a) : obsY as fa fn ts tf ex g = (hookY as fa fn ts tf ex).obs s := by
  obtain rfl : g = s.heap.get? := funext h
  rfl
end
end DL
namespace DL
open PySem PySem.Spec L2
section
variable {K : PySem.W.Frag} {W : WX} {F H : Hp} {env : Evn} {fp : Fp} {Z : Zst} {σ : L2.St}
end
end DL
namespace DL
open PySem PySem.Spec PyProof.Rows L2
end DL
namespace DL
open PySem PySem.Spec PyProof.Rows L2
section
variable {K : PySem.W.Frag} {F H : Hp}
end
section
variable {X : Cx} {W : WX} {ε : Bool} {i : Nat} {o e : Expr} {p : FP} {fe : FE} {cpos apos : Pos} {k : Kd}
end
end DL
namespace DL
open PySem PySem.Spec PyProof.Rows L2
section
variable {X : Cx} {kk : Nat} {f C : Addr} {fd : FuncData} {ps : List Str} {Fx : List D → Fo} {gG : List Value → List Value → List Value} {gV : List V → List V → List V} {cl : Str}
def TyV (C : Addr) (y : V) (H : Hp) : Prop := (∃ b dx ws, y = .ref b ∧ H b = some (.ins C dx ws)) ∨ (∃ b vs, y = .ref b ∧ H b = some (.lst vs)) ∨ ∃ t, y = .str t
theorem notFirst_list {K : PySem.W.Frag} {C : Addr} : PySem.W.notFirst K C (.type "list") = true := by
  have e : fastBuiltinMro "list" = some [Value.type "list", Value.type "object"] := by kernel_rfl
  simp [PySem.W.notFirst, PySem.W.subIn, e]
theorem notFirst_str {K : PySem.W.Frag} {C : Addr} : PySem.W.notFirst K C (.type "str") = true := by
  have e : fastBuiltinMro "str" = some [Value.type "str", Value.type "object"] := by kernel_rfl
  simp [PySem.W.notFirst, PySem.W.subIn, e]
theorem tyV_looks {pins : List (Addr × Obj)} {σ : L2.St} {H : Hp} {s : Shared} {y : V} {u : Value} (I : Inv X pins σ H s) (h : TyV C y H) (ry : RelV y u) : ∃ tb, PySem.W.Looks (model X.prog X.w) s.heap (typeOf u) tb ∧ PySem.W.notFirst X.K C tb = true := by
  rcases h with ⟨b, dx, ws, rfl, hb⟩ | ⟨b, vs, rfl, hb⟩ | ⟨t, rfl⟩
  · cases ry
    obtain ⟨mB, J, _⟩ := ins_get I.hok hb
    obtain ⟨od, J, _⟩ := J.look
    exact ⟨.ref C, J.type, by simp [PySem.W.notFirst]⟩
  · cases ry
    obtain ⟨z, its, k, r, e⟩ := I.hok b _ hb
    exact ⟨.type "list", fun A Q E s k q => wpAny_typeOf_ref (k _ _ e) q, notFirst_list⟩
  · obtain ⟨tk, rfl⟩ := ry
    exact ⟨.type "str", PySem.W.Looks.of_pure rfl, notFirst_str⟩
def rOwnEq (C : Addr) (sp : Sp) (gV : List V → List V → List V) : R2 := fun x y H Q => ∃ a dx fs, x = .ref a ∧ H a = some (.ins C dx fs) ∧ TyV C y H ∧ sp (gV [.ref a, y] []) H (fun v H1 => ∃ b, v = .bl b ∧ Q (.bl b) H1) (fun _ _ _ => False)
theorem op_ownEq {sp : Sp} (hr : Room (kk + 2) X.A) (FO : FnOk X.prog X.w X.K X.mg X.base (L2.CX X.prog X.w) kk f fd ps sp) (hb : KBn X.K fd ps 2 [] gG gV) (hs : PySem.W.findIn X.K (.ref C) "__eq__" = some (some (.ref f))) (hf : PySem.W.isFn X.K (.ref f) = true) : OpR X (compareOp .Eq) (rOwnEq C sp gV) := by
  intro pins s σ H x y v u Q I rx ry h
  obtain ⟨a, dx, fs, rfl, ha, hy, hsp⟩ := h
  cases rx
  obtain ⟨mA, J, _⟩ := ins_get I.hok ha
  obtain ⟨od, J, _⟩ := J.look
  obtain ⟨m, hF⟩ := I.fr
  obtain ⟨tb, L, hn⟩ := tyV_looks I hy ry
  have hr0 : Room kk X.A := Room.mono hr (by omega)
  refine PySem.W.cmp_K (op := .Eq) hr.units0 hF I.ok.mod.kin J L hn hs hf (thn (run_in1 (A := X.A) rfl FO hr0 hb I (.cons (show RelV (.ref a) (Value.ref a) from rfl) (.cons ry .nil)) rfl hsp) fun w s1 ⟨z, H1, I1, rz, b, ez, q⟩ => ?_)
  subst ez
  cases rz
  exact ⟨.bl b, H1, I1, rfl, q⟩
def eqTy (cl : Str) : D → Bool
  | .node _ (.ins c _) _ => decide (c = cl)
  | .node _ .lst _ => true
  | .str _ => true
  | _ => false
def isInsD (cl : Str) : D → Bool
  | .node _ (.ins c _) _ => decide (c = cl)
  | _ => false
def ownEqD (cl : Str) (Fx : List D → Fo) : List D → Option D
  | [x, y] => if isInsD cl x = true ∧ eqTy cl y = true then (match Fx [x, y] with
    | .ret (.bl b) [] => some (.bl b)
    | _ => none) else none
  | _ => none
theorem core2 {K : PySem.W.Frag} {F H : Hp} {d1 d2 : D} {v1 v2 : V} {f1 f2 : List Addr} {b : Bool} {P : VK} (hgV : ∀ x y, gV [x, y] [] = [x, y]) (hs : ∀ a u, F a = some u → Has H a u) (rep : RepA K F H [d1, d2] [v1, v2] [f1, f2]) (hF : Fx [d1, d2] = .ret (.bl b) [])
    (hP : ∀ F' H', Grow F H F' H' → P (.bl b) H') : spD K [false, false] Fx (gV [v1, v2] []) H P (fun _ _ _ => False) := by
  rw [hgV]
  refine ⟨F, [d1, d2], [f1, f2], hs, rep, rfl, ⟨fun i j fi fj _ hk => ?_, fun i fi hk => ?_, fun i fi hk => ?_⟩, ?_⟩
  · rcases i with _ | _ | i <;> simp at hk
  · rcases i with _ | _ | i <;> simp at hk
  · rcases i with _ | _ | i <;> simp at hk
  · rw [hF]
    intro F' H' v fr nfs fe rp mu hf
    have noM : ∀ b, ¬ MutA [false, false] [f1, f2] b := fun b ⟨i, f, hk, _⟩ => by rcases i with _ | _ | i <;> simp at hk
    obtain rfl : v = .bl b := rp.1
    exact hP F' H' ⟨fun b o ho => fe.keep b o ho (noM b), fe.sub, fun b h1 h2 => (fe.new b h1 h2).resolve_right (noM b), fe.has, fe.nofz⟩
theorem ins_rep {K : PySem.W.Frag} {F H : Hp} {d : D} {v : V} {fr : List Addr} (hs : ∀ a u, F a = some u → Has H a u) (h : isInsD cl d = true) (r : Rep K F H d v fr) : ∃ a dx fs, v = .ref a ∧ H a = some (.ins (He.ga K cl) dx fs) := by
  unfold isInsD at h
  split at h
  · have hc := of_decide_eq_true h
    subst hc
    obtain ⟨a, u, us, fq, rfl, h2, h3, h4, h5⟩ := r.node hs
    obtain ⟨hl, dx, rfl⟩ := h3
    exact ⟨a, dx, _, rfl, h2.ex rfl⟩
  · cases h
theorem ty_rep {K : PySem.W.Frag} {F H : Hp} {d : D} {v : V} {fr : List Addr} (hs : ∀ a u, F a = some u → Has H a u) (h : eqTy cl d = true) (r : Rep K F H d v fr) : TyV (He.ga K cl) v H := by
  unfold eqTy at h
  split at h
  · rename_i c fs xs
    obtain ⟨a, dx, gs, e1, e2⟩ := ins_rep (cl := cl) hs (by unfold isInsD; exact h) r
    exact .inl ⟨a, dx, gs, e1, e2⟩
  · obtain ⟨a, vs, fq, rfl, h1, _⟩ := r.lst hs
    exact .inr (.inl ⟨a, vs, rfl, h1⟩)
  · exact .inr (.inr ⟨_, r.1⟩)
  · cases h
theorem ok_ownEq {K : PySem.W.Frag} (hgV : ∀ x y, gV [x, y] [] = [x, y]) : OpOk K (l2 (rOwnEq (He.ga K cl) (spD K [false, false] Fx) gV)) (ownEqD cl Fx) := by
  intro F H ds vs frs d Q hs rep e q
  unfold ownEqD at e
  split at e
  · split at e
    · rename_i hc
      split at e
      · rename_i b hF
        cases e
        have rep' := rep
        obtain ⟨v, w, f, g1, rfl, rfl, h1, h2⟩ := rep.two
        obtain ⟨a, dx, fs, rfl, ha⟩ := ins_rep hs hc.1 h1
        exact ⟨a, dx, fs, rfl, ha, ty_rep hs hc.2 h2, core2 hgV hs rep' hF fun F' H' g => ⟨b, rfl, q F' H' _ [] g (.plain rfl) fun a ha => by cases ha⟩⟩
      · cases e
    · cases e
  · cases e
end
section
variable {X : Cx} {W : WX} {ε1 ε2 : Bool} {k1 k2 : Kd} {a b : Expr} {fa fb : FE} {fd : FuncData} {ps : List Str} {Fx : List D → Fo} {kk kc : Nat} {p pos : Pos}
theorem gV2 {gV : List V → List V → List V} (hv : ∀ vs zs : List V, vs.length = 2 → zs.length = ([] : List Str).length → gV vs zs = arV (arAll 0 2) (vs ++ zs)) : ∀ x y, gV [x, y] [] = [x, y] := fun x y => by rw [hv [x, y] [] rfl rfl]; rfl
theorem eq_own (cl : Str) (c : CCx kc X W) (FO : FnOk X.prog X.w X.K X.mg X.base (L2.CX X.prog X.w) kk (He.ma X.K (He.ga X.K cl) "__eq__") fd ps (spD X.K [false, false] Fx)) (B : BOk X.K fd ps 2 [] (arAll 0 2)) (hm : (He.Fa.meth cl "__eq__").ok X.K = true) (hle : kk + 2 ≤ kc := by first | decide | exact Nat.le_refl _ | omega) :
    ∃ r, OpR X (compareOp .Eq) r ∧ OpOk X.K (l2 r) (ownEqD cl Fx) := by
  obtain ⟨gG, gV, hb, hv⟩ := B.ex
  obtain ⟨h1, h2⟩ := meth_find hm
  exact ⟨_, op_ownEq (c.rm.mono hle) FO hb h1 h2, ok_ownEq (gV2 hv)⟩
theorem de_cmpX {op : CmpOp} {g : List D → Option D} (h : ∃ r, OpR X (compareOp op) r ∧ OpOk X.K (l2 r) g) (ha : DE X W ε1 k1 a fa) (hb : DE X W ε2 k2 b fb)
    (hp : ε2 = true → ∀ j, k1 ≠ .bor j := by first | exact fun h => (nomatch h) | exact fun _ j h => (nomatch h)) (hm : behindInMarks op b = false := by first | exact nomark _ | rfl) : DE X W (ε1 || (ε2 || false)) .own (.Compare a [op] [b] pos) (fOp g (aCons fa (aCons fb aNil))) := by
  obtain ⟨r, h1, h2⟩ := h
  exact de_cmp h1 h2 ha hb hp hm
theorem dt_cmpX {op : CmpOp} {g : List D → Option D} (h : ∃ r, OpR X (compareOp op) r ∧ OpOk X.K (l2 r) g) (ha : DE X W ε1 k1 a fa) (hb : DE X W ε2 k2 b fb)
    (hp : ε2 = true → ∀ j, k1 ≠ .bor j := by first | exact fun h => (nomatch h) | exact fun _ j h => (nomatch h)) (hm : behindInMarks op b = false := by first | exact nomark _ | rfl) : DT X W (ε1 || (ε2 || false)) (.Compare a [op] [b] pos) (fB (fOp g (aCons fa (aCons fb aNil)))) := by
  obtain ⟨r, h1, h2⟩ := h
  exact dt_cmp h1 h2 ha hb hp hm
end
end DL
namespace DL
open PySem PySem.Spec PyProof.Rows L2 LamX
section
variable {X : Cx} {i j : Nat} {fns : List Str} {es : List Expr} {e2 : Expr} {k' : Nat} {n x c C : Str} {p' pos pos2 p1 p2 p3 p4 p6 : Pos}
end
end DL
namespace DL
open PySem PySem.Spec L2
section
variable {K : PySem.W.Frag} {W : WX} {F H : Hp} {env : Evn} {fp : Fp} {Z : Zst} {D_ : Ends} {i : Nat} {o : So} {σ : L2.St}
end
section
variable {X : Cx} {W : WX} {ε : Bool} {k : Kd} {ms : List Nat} {e : Expr} {sts : List Stmt} {f : FS} {fe : FE}
end
end DL
namespace DL
open PySem PySem.Spec PyProof.Rows L2
section
variable {X : Cx} {σ : L2.St} {kx vx tg iter : Expr} {ifs : List Expr} {scope : Scope} {own : List (Str × Nat)} {pos pos' : Pos} {wi : TI} {g : TG} {tt : TT} {tk tv : TE}
end
section
variable {X : Cx} {W : WX} {ε : Bool} {k : Kd} {tg iter kx vx c : Expr} {ifs : List Expr} {scope : Scope} {own : List (Str × Nat)} {pos : Pos} {fI : Evn → Rs (Md × List D × Bool)} {gD : Md → D → Evn → Option Evn} {ft : FT} {fe : FE} {n : Nat} {vs : List Nat} {ms : List Nat}
end
end DL
namespace DL
open PySem PySem.Spec L2
section
variable {X : Cx} {W : WX} {ε : Bool} {k : Kd} {tg iter elt c : Expr} {ifs : List Expr} {scope : Scope} {own : List (Str × Nat)} {pos : Pos} {fI : Evn → Rs (Md × List D × Bool)} {gD : Md → D → Evn → Option Evn} {ft : FT} {fe : FE} {n : Nat}
end
def rmH (H : Hp) (d : Addr) : Hp := fun a => if a = d then none else H a
theorem rmH_ne {H : Hp} {d a : Addr} (h : a ≠ d) : rmH H d a = H a := if_neg h
theorem rmH_some {H : Hp} {d a : Addr} {o : HO} (h : rmH H d a = some o) : a ≠ d ∧ H a = some o := by
  unfold rmH at h
  split at h
  · cases h
  · rename_i e; exact ⟨e, h⟩
section
variable {K : PySem.W.Frag} {F H : Hp} {env : Evn} {fp : Fp} {Z : Zst} {σ : L2.St} {d : Addr}
theorem Rep.drop {x : D} {v : V} {f : List Addr} (h : Rep K F H x v f) (n : d ∉ f) : Rep K F (rmH H d) x v f :=
  Rep.mono (fun _ _ h => h) x v f (fun a ha u hu => hu.same fun o ho => by rw [rmH_ne (fun z => n (by rw [← z]; exact ha))]; exact ho) h
theorem RepL.drop {x : List D} {v : List V} {f : List Addr} (h : RepL K F H x v f) (n : d ∉ f) : RepL K F (rmH H d) x v f :=
  RepL.mono (fun _ _ h => h) x v f (fun a ha u hu => hu.same fun o ho => by rw [rmH_ne (fun z => n (by rw [← z]; exact ha))]; exact ho) h
theorem R.drop (r : R K Z F H env σ fp) (hF : F d = none) (hB : ¬ Z.B d) (ho : ∀ i, hold env i → d ∉ fp i) : R K Z F (rmH H d) env σ fp where
  sub := fun a u h => (r.sub a u h).same fun o q => by rw [rmH_ne (fun z => by rw [z, hF] at h; cases h)]; exact q
  slot := fun i => by
    have s := r.slot i
    unfold SlotR at s ⊢
    cases q : env[i]? with
    | none => trivial
    | some t =>
      rw [q] at s
      cases t with
      | dead => trivial
      | own x =>
        obtain ⟨v, h1, h2⟩ := s
        exact ⟨v, h1, h2.drop (ho i (.inl ⟨x, q⟩))⟩
      | bor m x =>
        cases m with
        | none =>
          obtain ⟨v, h1, h2, h3⟩ := s
          exact ⟨v, h1, h2.drop (fun z => hB (h3 d z)), h3⟩
        | some m =>
          obtain ⟨v, h1, h2, h3, h4⟩ := s
          exact ⟨v, h1, h2.drop (fun z => ho m h3 (h4 d z)), h3, h4⟩
  sep := r.sep
  sepB := r.sepB
  hF := r.hF
  domB := fun a ha => by rw [rmH_ne (fun z => hB (by rw [← z]; exact ha))]; exact r.domB a ha
  pin := r.pin
  gh := fun p hp => (r.gh p hp).drop (fun z => nomatch z)
  len := r.len
  nf := fun i hi a ha o u q => r.nf i hi a ha o u (rmH_some q).2
end
def flat : Md → Bool
  | .bor (some _) => false
  | _ => true
section
variable {X : Cx} {W : WX} {ε : Bool} {k k1 : Kd} {tg iter elt c tg1 iter1 : Expr} {ifs ifs1 : List Expr} {scope : Scope} {own : List (Str × Nat)} {pos : Pos} {fI : Evn → Rs (Md × List D × Bool)} {gD g1 : Md → D → Evn → Option Evn} {ft ft1 : FT} {fe fi1 : FE} {n : Nat} {vs vs1 : List Nat}
end
end DL
namespace DL
open PySem PySem.Spec PyProof.Rows L2
def ins {α : Type} (le : α → α → Bool) (x : α) : List α → List α
  | [] => [x]
  | y :: l => if le x y = true then x :: y :: l else y :: ins le x l
section
variable {α : Type} {le : α → α → Bool}
end
def strsD : List D → Option (List Str)
  | [] => some []
  | .str b :: ds => (strsD ds).map (b :: ·)
  | _ => none
section
variable {K : PySem.W.Frag} {F H : Hp}
theorem strsD_rep : ∀ {ds : List D} {bs : List Str} {vs : List V} {fr : List Addr}, strsD ds = some bs → RepL K F H ds vs fr → vs = bs.map V.str
  | [], bs, vs, fr, e, h => by cases e; exact h.nil_inv.1
  | .str b :: ds, bs, vs, fr, e, h => by
    simp only [strsD, Option.map_eq_some_iff] at e
    obtain ⟨bs', e1, rfl⟩ := e
    obtain ⟨v, ws, f1, f2, rfl, rfl, _, h2, h3⟩ := h.cons_inv
    rw [strsD_rep e1 h3, h2.1]
    rfl
  | .non :: _, _, _, _, e, _ => by cases e
  | .int _ :: _, _, _, _, e, _ => by cases e
  | .bl _ :: _, _, _, _, e, _ => by cases e
  | .ob _ :: _, _, _, _, e, _ => by cases e
  | .ty _ :: _, _, _, _, e, _ => by cases e
  | .scr _ :: _, _, _, _, e, _ => by cases e
  | .tscr _ _ :: _, _, _, _, e, _ => by cases e
  | .lam _ _ _ :: _, _, _, _, e, _ => by cases e
  | .node _ _ _ :: _, _, _, _, e, _ => by cases e
theorem strs_rep : ∀ (ss : List Str), RepL K F H (ss.map D.str) (ss.map V.str) []
  | [] => ⟨rfl, rfl⟩
  | s :: ss => RepL.mk (f1 := []) (f2 := []) (fun a z => nomatch z) (.plain rfl) (strs_rep ss)
end
end DL
namespace DL
open PySem PySem.Spec L2
section
variable {K : PySem.W.Frag} {F H F1 H1 F' H' : Hp} {env env1 env' : Evn} {fp fp1 fp' : Fp} {Z : Zst} {σ σ' : L2.St} {vs : List Nat} {n : Nat}
theorem Ev.dead {F0 H0 : Hp} {env0 : Evn} {fp0 : Fp} : ∀ {js : List Nat} {env : Evn} {fp : Fp}, Ev true F0 H0 env0 fp0 F H env fp → (∀ j ∈ js, j < env.length) → Ev true F0 H0 env0 fp0 F H (deadM js env) (fpD js fp)
  | [], env, fp, e, _ => by
    have z : fpD [] fp = fp := by funext i; simp [fpD]
    rw [z]
    exact e
  | j :: js, env, fp, e, hl => by
    have hj := hl j (List.mem_cons_self ..)
    have e1 := Ev.put (s' := .dead) (f' := []) e hj (fun d h => (nomatch h)) (fun d h => (nomatch h))
    have e2 := Ev.dead (js := js) e1 fun i hi => by rw [putE_length]; exact hl i (List.mem_cons_of_mem _ hi)
    have z : fpD js (fset fp j []) = fpD (j :: js) fp := by
      funext i
      unfold fpD
      by_cases h1 : i ∈ js
      · rw [if_pos h1, if_pos (List.mem_cons_of_mem _ h1)]
      · rw [if_neg h1]
        by_cases h2 : i = j
        · subst h2
          rw [fset_same, if_pos (List.mem_cons_self ..)]
        · rw [fset_ne h2, if_neg (fun z => (List.mem_cons.mp z).elim h2 h1)]
    rw [z] at e2
    exact e2
theorem hold_deadM {js : List Nat} (hl : ∀ j ∈ js, j < env.length) {i : Nat} (h : hold (deadM js env) i) : hold env i ∧ i ∉ js := by
  rcases h with h | h
  · have z := (hold_dead hl).1.mp h
    exact ⟨.inl z.1, z.2⟩
  · have z := (hold_dead hl).2.mp h
    exact ⟨.inr z.1, z.2⟩
structure Acc (K : PySem.W.Frag) (Hb : Hp) (env2 : Evn) (fp2 : Fp) (F H : Hp) (env : Evn) (fp : Fp) (Dd : Addr) (acc : List D) (vals : List V) (facc : List Addr) : Prop where
  at_ : H Dd = some (.lst vals)
  nF : F Dd = none
  rl : RepL K F H acc vals facc
  nD : Dd ∉ facc
  old : ∀ b ∈ facc, (Hb b = none ∨ OwnA env2 fp2 b) ∧ F b = none
  ap : ∀ b, b = Dd ∨ b ∈ facc → ∀ j, hold env j → b ∉ fp j
theorem Acc.ev {Hb : Hp} {env2 : Evn} {fp2 : Fp} {ε : Bool} {Dd : Addr} {acc : List D} {vals : List V} {facc : List Addr} (a : Acc K Hb env2 fp2 F H env fp Dd acc vals facc) (e : Ev ε F H env fp F' H' env' fp') : Acc K Hb env2 fp2 F' H' env' fp' Dd acc vals facc := by
  have no : ∀ b, b = Dd ∨ b ∈ facc → ¬ OwnA env fp b := fun b hb ⟨j, hj, hm⟩ => a.ap b hb j (.inl hj) hm
  have dom : ∀ b, b = Dd ∨ b ∈ facc → H b ≠ none := fun b hb => by
    rcases hb with rfl | hb
    · rw [a.at_]; exact fun z => by cases z
    · exact RepL.dom _ _ _ a.rl b hb
  have nF : ∀ b, b = Dd ∨ b ∈ facc → F b = none → F' b = none := fun b hb h => by
    cases q : F' b with
    | none => rfl
    | some u =>
      rcases e.new b h (by rw [q]; exact fun z => by cases z) with z | z
      · exact absurd z (dom b hb)
      · exact absurd z.2 (no b hb)
  refine ⟨e.keep _ _ a.at_ fun _ => no _ (.inl rfl), nF _ (.inl rfl) a.nF, RepL.mono e.sub _ _ _ (fun b hb u hu => hu.same fun o ho => e.keep b o ho fun _ => no b (.inr hb)) a.rl, a.nD, fun b hb => ⟨(a.old b hb).1, nF b (.inr hb) (a.old b hb).2⟩, fun b hb j hj hm => ?_⟩
  rcases hj with hj | hj
  · rcases e.own b ⟨j, hj, hm⟩ with z | z
    · exact dom b hb z
    · exact no b hb z
  · obtain ⟨i, hi, hm'⟩ := e.lk b ⟨j, hj, hm⟩
    exact a.ap b hb i (.inr hi) hm'
theorem Acc.dead {Hb : Hp} {env2 : Evn} {fp2 : Fp} {Dd : Addr} {acc : List D} {vals : List V} {facc : List Addr} (a : Acc K Hb env2 fp2 F H env fp Dd acc vals facc) (hl : ∀ j ∈ vs, j < env.length) : Acc K Hb env2 fp2 F H (deadM vs env) (fpD vs fp) Dd acc vals facc :=
  ⟨a.at_, a.nF, a.rl, a.nD, a.old, fun b hb j hj hm => by
    obtain ⟨h1, h2⟩ := hold_deadM hl hj
    unfold fpD at hm
    rw [if_neg h2] at hm
    exact a.ap b hb j h1 hm⟩
theorem Acc.push {Hb : Hp} {env2 : Evn} {fp2 : Fp} {Dd : Addr} {acc : List D} {vals : List V} {facc : List Addr} {d : D} {v : V} {fr : List Addr} (a : Acc K Hb env2 fp2 F H env fp Dd acc vals facc) (rp : Rep K F H d v fr) (h1 : ∀ b ∈ fr, (Hb b = none ∨ OwnA env2 fp2 b) ∧ F b = none) (h2 : ∀ b ∈ fr, ∀ j, hold env j → b ∉ fp j) (h3 : Dd ∉ fr) (h4 : ∀ b ∈ facc, b ∉ fr)
    : Acc K Hb env2 fp2 F (upd H Dd (.lst (vals ++ [v]))) env fp Dd (acc ++ [d]) (vals ++ [v]) (facc ++ fr) := by
  have nDa : Dd ∉ facc ++ fr := fun z => (List.mem_append.mp z).elim a.nD h3
  refine ⟨upd_same, a.nF, (a.rl.app (.one rp) h4).at_upd nDa, nDa, fun b hb => ?_, fun b hb => ?_⟩
  · rcases List.mem_append.mp hb with hb | hb
    · exact a.old b hb
    · exact h1 b hb
  · rcases hb with rfl | hb
    · exact a.ap _ (.inl rfl)
    · rcases List.mem_append.mp hb with hb | hb
      · exact a.ap b (.inr hb)
      · exact h2 b hb
end
section
variable {X : Cx} {W : WX} {ε : Bool} {k : Kd} {tg iter elt c : Expr} {ifs : List Expr} {scope : Scope} {own : List (Str × Nat)} {pos : Pos} {fI : Evn → Rs (Md × List D × Bool)} {gD : Md → D → Evn → Option Evn} {ft : FT} {fe : FE} {n : Nat} {vs : List Nat} {ms : List Nat}
end
end DL
namespace DL
open PySem PySem.Spec PyProof.Rows L2
def fSm (g : Str → D → Option D) (f fa : FE) : FE := fun env => (f env).bind fun d e1 => match d with
  | .str z => (fa e1).bind fun y e2 => optR (g z y) e2
  | _ => .stuck
def SmOk (K : PySem.W.Frag) (r : V → List V → Hp → VK → Prop) (g : Str → D → Option D) : Prop :=
  ∀ (F H : Hp) (z : Str) (y d : D) (v : V) (fr : List Addr) (Q : VK), (∀ a u, F a = some u → Has H a u) → Rep K F H y v fr → g z y = some d →
    (∀ F' H' w fr', Grow F H F' H' → Rep K F' H' d w fr' → (∀ a ∈ fr', H a = none ∧ F' a = none) → Q w H') → r (.str z) [v] H Q
section
variable {X : Cx} {W : WX} {ε1 ε2 : Bool} {k1 k2 : Kd} {o e : Expr} {f fa : FE} {name : Str} {apos pos : Pos} {id : String} {r : V → List V → Hp → VK → Prop} {g : Str → D → Option D}
theorem esim_sm {to te : TE} (so : ESim X.K W ε1 k1 to f) (se : ESim X.K W ε2 k2 te fa) (ok : SmOk X.K r g) : ESim X.K W (ε1 || ε2) .own (tM1 r to te) (fSm g f fa) := by
  intro Z F H env σ fp Q r0 hq
  refine so Z F H env σ fp _ r0 (Post.bind hq orL orLF fun d e1 h1 F1 H1 fp1 v fr ev r1 rp ko => ?_)
  cases d with
  | str z =>
    obtain ⟨rfl, rfl⟩ := rp
    refine ⟨⟨z, rfl⟩, ?_⟩
    have h1' := Post.seq (a := D.str z) ev h1
    refine se Z F1 H1 e1 σ fp1 _ r1 (Post.bind (ε := ε2) h1' _root_.id _root_.id fun y e2 h2 F2 H2 fp2 w fw ev2 r2 rpy koy => ?_)
    cases qg : g z y with
    | none => rw [qg] at h2; exact h2.elim
    | some d2 =>
      rw [qg] at h2
      refine ok F2 H2 z y d2 w fw _ r2.sub rpy qg fun F' H' u fr' gr rpd fresh => ?_
      have ev3 : Ev ε2 F1 H1 e1 fp1 F' H' e2 fp2 := (ev2.trans (gr.ev (ε := false))).mono (by cases ε2 <;> simp) (by cases ε2 <;> simp)
      have evT : Ev (ε1 || ε2) F H env fp F' H' e2 fp2 := ev.trans ev3
      refine h2 F' H' fp2 u fr' evT (r2.grow gr) rpd fun a ha => ⟨.inl ?_, fun z => ?_, (fresh a ha).2⟩
      · exact ev.nd (ev2.nd (fresh a ha).1)
      · exact r2.own_dom z (fresh a ha).1
  | _ => exact h1.elim
theorem de_sm (slot : Slot "str" name id) (ty : typeOf (.builtin id) = pure (.type "method_descriptor")) (rule : MtR X id r) (ok : SmOk X.K r g) (ho : DE X W ε1 k1 o f) (he : DE X W ε2 k2 e fa) (hs : starEach [e] X.env = [(false, eval e X.env)]) (hbase : attributeBase o name X.env (eval o X.env) = eval o X.env) (hline : (apos.endLine == pos.line) = true) :
    DE X W (ε1 || ε2) .own (.Call (.Attribute o name apos) [e] [] pos) (fSm g f fa) := by
  obtain ⟨t1, p1, s1⟩ := ho.ex
  obtain ⟨t2, p2, s2⟩ := he.ex
  exact ⟨_, pe_m1 slot ty rule p1 p2 hs hbase hline, esim_sm s1 s2 ok⟩
end
def rJoin (K : PySem.W.Frag) : V → List V → Hp → VK → Prop := fun x xs H Q => ∃ a p, ∃ ys : List Str, x = .str a ∧ xs = [.ref p] ∧ (SqL K H p (ys.map V.str) ∨ SqT K H p (ys.map V.str)) ∧ (ys.map (·.length)).sum + ys.length * a.length ≤ 16777216 ∧ Q (.str (Txt.join a ys)) H
def gJoin (z : Str) : D → Option D
  | .node _ .lst xs => (strsD xs).bind fun ss => if (ss.map (·.length)).sum + ss.length * z.length ≤ 16777216 then some (.str (Txt.join z ss)) else none
  | _ => none
theorem ok_join {K : PySem.W.Frag} : SmOk K (rJoin K) gJoin := by
  intro F H z y d v fr Q hs rp e q
  unfold gJoin at e
  split at e
  · rename_i o xs
    rw [Option.bind_eq_some_iff] at e
    obtain ⟨ss, e1, e2⟩ := e
    split at e2
    · rename_i hl
      cases e2
      obtain ⟨p, ys, fq, rfl, hp, rl, _⟩ := rp.lst hs
      exact ⟨z, p, ss, rfl, rfl, .inl (.inl (.inl (by rw [hp, strsD_rep e1 rl]))), hl, q F H _ [] (Grow.refl hs) (.plain rfl) fun a ha => nomatch ha⟩
    · cases e2
  · cases e
def rSplit1 : V → List V → Hp → VK → Prop := fun x xs H Q => ∃ a b, x = .str a ∧ xs = [.str b] ∧ (b.length == 0) = false ∧ a.length + 2 ≤ sizeLine ∧ rNewStrs (Txt.split a b) H Q
def gSplit (z : Str) : D → Option D
  | .str b => if (b.length == 0) = false ∧ z.length + 2 ≤ sizeLine then some (.node true .lst ((Txt.split z b).map .str)) else none
  | _ => none
theorem ok_split {K : PySem.W.Frag} : SmOk K rSplit1 gSplit := by
  intro F H z y d v fr Q hs rp e q
  unfold gSplit at e
  split at e
  · split at e
    · rename_i hc
      cases e
      obtain ⟨rfl, rfl⟩ := rp
      exact ⟨z, _, rfl, rfl, hc.1, hc.2, fun p hn => new_lst hs (strs_rep _) q p hn⟩
    · cases e
  · cases e
def rStarts : V → List V → Hp → VK → Prop := fun x xs H Q => ∃ a b, x = .str a ∧ xs = [.str b] ∧ Q (.bl (Txt.startswith a b)) H
def gStarts (z : Str) : D → Option D
  | .str b => some (.bl (Txt.startswith z b))
  | _ => none
theorem ok_starts {K : PySem.W.Frag} : SmOk K rStarts gStarts := by
  intro F H z y d v fr Q hs rp e q
  unfold gStarts at e
  split at e
  · cases e
    obtain ⟨rfl, rfl⟩ := rp
    exact ⟨z, _, rfl, rfl, q F H _ [] (Grow.refl hs) (.plain rfl) fun a ha => nomatch ha⟩
  · cases e
section
variable {X : Cx} {W : WX} {ε1 ε2 : Bool} {k1 k2 : Kd} {o e : Expr} {f fa : FE} {apos pos : Pos}
theorem de_join (ho : DE X W ε1 k1 o f) (he : DE X W ε2 k2 e fa) (hs : starEach [e] X.env = [(false, eval e X.env)] := by rfl) (hbase : attributeBase o "join" X.env (eval o X.env) = eval o X.env := by rfl) (hline : (apos.endLine == pos.line) = true := by rfl) :
    DE X W (ε1 || ε2) .own (.Call (.Attribute o "join" apos) [e] [] pos) (fSm gJoin f fa) := de_sm PySem.F.slot_str_join PySem.F.type_str_join mt_join ok_join ho he hs hbase hline
theorem de_split (ho : DE X W ε1 k1 o f) (he : DE X W ε2 k2 e fa) (hs : starEach [e] X.env = [(false, eval e X.env)] := by rfl) (hbase : attributeBase o "split" X.env (eval o X.env) = eval o X.env := by rfl) (hline : (apos.endLine == pos.line) = true := by rfl) :
    DE X W (ε1 || ε2) .own (.Call (.Attribute o "split" apos) [e] [] pos) (fSm gSplit f fa) := de_sm PySem.F.slot_str_split PySem.F.type_str_split mt_split ok_split ho he hs hbase hline
theorem de_starts (ho : DE X W ε1 k1 o f) (he : DE X W ε2 k2 e fa) (hs : starEach [e] X.env = [(false, eval e X.env)] := by rfl) (hbase : attributeBase o "startswith" X.env (eval o X.env) = eval o X.env := by rfl) (hline : (apos.endLine == pos.line) = true := by rfl) :
    DE X W (ε1 || ε2) .own (.Call (.Attribute o "startswith" apos) [e] [] pos) (fSm gStarts f fa) := de_sm PySem.F.slot_str_startswith PySem.F.type_str_startswith mt_startswith ok_starts ho he hs hbase hline
end
end DL
namespace DL
open PySem PySem.Spec PyProof.Rows L2 LamX
section
variable {P : Program} {w : World} {K : PySem.W.Frag} {mg : Str → Option Value} {base : Heap} {x qual : Str} {params : Arguments} {body : List Stmt} {scope : Scope} {dvs : List V} {kws : List (Str × V)} {f : Addr} {fd : FuncData}
end
section
variable {X : Cx} {W : WX} {ε : Bool} {n j k : Nat} {f fA : Addr} {fd : FuncData} {ps ks : List Str} {kinds : List Bool} {Fx : List D → Fo} {gG : List Value → List Value → List Value} {gV : List V → List V → List V} {t : TAK} {es : List Expr} {kws : List Keyword} {x : Str} {p pos : Pos} {ar : List Ar} {cs : List CK} {fa : FA}
end
end DL
namespace DL
open PySem PySem.Spec PyProof.Rows L2 LamX
structure WSuite (X : Cx) (i j : Nat) (suite : List Stmt) (ts : Addr → Value → Option Addr → TS) : Prop where
  ps : ∀ (a : Addr) (oe : Obj) (cls : Value) (d : Option Addr) (pn : List (Addr × Obj)), Zc cls d oe → (∃ vs, oe.data = .fields vs) → PSs (X.suite a ((a, oe) :: pn)) suite (ts a cls d)
  rd : ∀ (D_ : Ends) (σ : L2.St) (H : Hp) (a dd : Addr) (c : Str) (fs : List (Str × V)) (w : V), fldB X.K c [("word" : Str)] = true → H dd = some (.xd fs) → fs.lookup ("word" : Str) = some w → σ[i]? = some (some (.ref a)) →
    D_.nx (σ.set j (some w)) H → ts a (.ref (He.ga X.K c)) (some dd) D_ σ H
inductive WHs (X : Cx) (i j : Nat) : List ExceptHandler → List (List Str) → Prop
  | nil : WHs X i j [] []
  | cons {t : Expr} {cs : List Str} {n : Str} {ts : Addr → Value → Option Addr → TS} {b₀ : Stmt} {suite : List Stmt} {pos' : Pos} {hds : List ExceptHandler} {l : List (List Str)}
      (hc : XT X t (cs.map fun y => .ref (He.ga X.K y))) (hN : X.N.Nodup) (hi : X.N[i]? = some n) (hk : X.env.kindOf n = some .local) (hs : WSuite X i j (b₀ :: suite) ts) (r : WHs X i j hds l) : WHs X i j (.ExceptHandler (some t) (some n) (b₀ :: suite) pos' :: hds) (cs :: l)
section
variable {K : PySem.W.Frag} {W : WX} {ε : Bool} {k : Kd} {cs : List Str} {fb : FE} {Z : Zst} {F H F1 H1 : Hp} {env e1 : Evn} {σ : L2.St} {fp fp1 : Fp} {Q : VK}
end
end DL
namespace DL
open PySem PySem.Spec PyProof.Rows L2 LamX
section
variable {X : Cx} {W : WX} {kd : Kd} {x y q : Str} {i k kc : Nat} {f c : Addr} {pm ctv : Value} {params : Arguments} {body : Expr} {scope : Scope} {fb : FE} {p p1 p2 py pos : Pos}
end
end DL
namespace DL
open PySem PySem.Spec PyProof.Rows L2
section
variable {K : PySem.W.Frag} {F H F' H' : Hp} {env env' : Evn} {fp fp' : Fp} {Z : Zst} {σ : L2.St}
theorem Loose.kill {a : Addr} {k : Nat} (h : Loose Z F H env fp a) : Loose Z F H (putE k .dead env) (fset fp k []) a := by
  obtain ⟨h1, h2, h3, h4⟩ := h
  refine ⟨h1, fun j hj hm => ?_, h3, h4⟩
  by_cases e : j = k
  · subst e
    rw [fset_same] at hm
    cases hm
  · rw [fset_ne e] at hm
    exact h2 j (hj.imp (isOwn_put e).mp (isLk_put e).mp) hm
theorem RepL.same {xs : List D} {vs : List V} {f : List Addr} (hF : ∀ a u, F a = some u → F' a = some u) (h : RepL K F H xs vs f) (hs : ∀ b ∈ f, H' b = H b) : RepL K F' H' xs vs f :=
  RepL.mono hF _ _ _ (fun b hb w hw => hw.same fun o ho => by rw [hs b hb]; exact ho) h
end
section
variable {X : Cx} {W : WX} {ms : List Nat} {i k : Nat} {x y : Str} {body : List Stmt} {fb : FS} {px py pos : Pos}
end
end DL
namespace DL
open PySem PySem.Spec PyProof.Rows L2
theorem kvS_some {e : DictEntry} {k i : Str} (h : kvS e = some (k, i)) : ∃ t u, e.key = .str k t ∧ e.val = .str i u := by
  unfold kvS at h
  split at h
  · rename_i k' t i' u e1 e2
    cases h
    exact ⟨t, u, e1, e2⟩
  · cases h
theorem tabS_find {z : Str} : ∀ (l : List DictEntry) (kvs : List (Str × Str)), l.map kvS = kvs.map some →
    ∃ r : Option Value, (match l.find? (·.key.isStr z) with
      | some e => some (some e.val)
      | none => if l.any (·.refKey) then none else some none) = some r ∧ (kvs.lookup z = none → r = none) ∧ ∀ i, kvs.lookup z = some i → ∃ t, r = some (.str i t)
  | [], [], _ => ⟨none, rfl, fun _ => rfl, fun i h => by cases h⟩
  | [], _ :: _, h => by cases h
  | _ :: _, [], h => by cases h
  | e :: l, (k, i) :: kvs, h => by
    rw [List.map_cons, List.map_cons] at h
    injection h with h1 h2
    obtain ⟨t, u, e1, e2⟩ := kvS_some h1
    have nr : e.refKey = false := by unfold DictEntry.refKey; rw [e1]
    obtain ⟨r, r1, r2, r3⟩ := tabS_find (z := z) l kvs h2
    by_cases q : k = z
    · subst q
      refine ⟨some e.val, ?_, fun y => ?_, fun j hj => ?_⟩
      · rw [List.find?_cons, e1]
        show (match (match (k == k) with | true => some e | false => l.find? (·.key.isStr k)) with
          | some e => some (some e.val)
          | none => if (e :: l).any (·.refKey) then none else some none) = some (some e.val)
        rw [beq_self_eq_true]
      · rw [List.lookup_cons, beq_self_eq_true] at y
        cases y
      · rw [List.lookup_cons, beq_self_eq_true] at hj
        cases hj
        exact ⟨u, by rw [e2]⟩
    · have q1 : (k == z) = false := beq_false_of_ne q
      have q2 : (z == k) = false := beq_false_of_ne (Ne.symm q)
      refine ⟨r, ?_, fun y => r2 ?_, fun j hj => r3 j ?_⟩
      · rw [List.find?_cons, e1]
        show (match (match (k == z) with | true => some e | false => l.find? (·.key.isStr z)) with
          | some e => some (some e.val)
          | none => if (e :: l).any (·.refKey) then none else some none) = some r
        rw [q1, List.any_cons, nr, Bool.false_or]
        exact r1
      · rw [List.lookup_cons, q2] at y
        exact y
      · rw [List.lookup_cons, q2] at hj
        exact hj
theorem tabS_ns {K : PySem.W.Frag} {x : Str} {kvs : List (Str × Str)} {z : Str} (h : tabSV K x kvs = true) : ∃ r, PySem.W.nsIn K (He.ga K x) z = some r ∧ (kvs.lookup z = none → r = none) ∧ ∀ i, kvs.lookup z = some i → ∃ t, r = some (.str i t) := by
  unfold tabSV at h
  split at h
  · rename_i c od es n sl e
    unfold PySem.W.nsIn
    rw [e]
    exact tabS_find _ _ (of_decide_eq_true h)
  · cases h
def oTabGetS (kvs : List (Str × Str)) : List D → Option D
  | [.str z, d] => (match kvs.lookup z with
    | some i => some (.str i)
    | none => if d.frz = true then some d else none)
  | _ => none
section
variable {X : Cx} {W : WX} {ε ε1 ε2 : Bool} {k k1 k2 : Kd} {e e1 e2 : Expr} {f f1 f2 : FE} {p pos apos cpos : Pos}
def tTGetS (kvs : List (Str × Str)) (ty tx : TE) : TE := fun σ H Q => ty σ H fun y H2 => tx σ H2 fun z H3 => ∃ s, y = .str s ∧ Q (match kvs.lookup s with
  | some i => .str i
  | none => z) H3
theorem pe_tgetS {x : Str} {kvs : List (Str × Str)} {ty tx : TE} {es : Array DictEntry} {n : Nat} (D : KDict X.K X.w (He.ga X.K x) es n) (hv : tabSV X.K x kvs = true) (hg : Gl X x) (hm : X.mg x = some (.ref (He.ga X.K x))) (he : PE X e1 ty) (hf : PE X e2 tx) (m : M2 X (.Name x p) "get" apos e1 e2 cpos) (hd : (x == ("__debug__" : Str)) = false) :
    PE X (.Call (.Attribute (.Name x p) "get" apos) [e1, e2] [] cpos) (tTGetS kvs ty tx) := by
  refine ⟨fun pins s σ H Q I h => wpAny_Call_method m.base m.few m.line PySem.F.plainAttrs_dict PySem.F.slot_dict_get PySem.F.type_dict_get (ld_glob I hg hm ⟨kd_type D I, fun b q => ?_, ?_⟩ hd)⟩
  · cases q
    exact ⟨_, I.kIn _ _ D.at_, rfl⟩
  · rw [m.trees]
    refine Calls.callWith_builtin rfl (Calls.evalArgs_plain (Calls.spliced_cons (thn (he.run pins s σ H _ I h) fun iv s2 ⟨y, H2, I2, ry, q2⟩ => Calls.spliced_cons (thn (hf.run pins s2 σ H2 _ I2 q2) fun fv s3 ⟨z, H3, I3, rz, sz, ey, q3⟩ => Calls.spliced_nil ?_))))
    subst ey
    obtain ⟨t, rfl⟩ := ry
    obtain ⟨r, er, hn, hi⟩ := tabS_ns hv (z := sz)
    refine kd_get2 D I3 er fun s4 I4 => ?_
    cases q : kvs.lookup sz with
    | none =>
      rw [q] at q3
      rw [hn q]
      exact ⟨z, H3, I4, rz, q3⟩
    | some i =>
      rw [q] at q3
      obtain ⟨u, rfl⟩ := hi i q
      exact ⟨.str i, H3, I4, ⟨u, rfl⟩, q3⟩
theorem ok_tgetS {K : PySem.W.Frag} {kvs : List (Str × Str)} : OpOk K (l2 fun y z H Q => ∃ s, y = .str s ∧ Q (match kvs.lookup s with
      | some i => .str i
      | none => z) H) (oTabGetS kvs) := by
  intro F H ds vs frs d Q hs rep e q
  unfold oTabGetS at e
  split at e
  · rename_i z xd
    obtain ⟨y, w, f, g, rfl, rfl, h1, h2⟩ := rep.two
    obtain rfl : y = .str z := h1.1
    refine ⟨z, rfl, ?_⟩
    cases ql : kvs.lookup z with
    | some i =>
      rw [ql] at e
      cases e
      exact same_q hs (.plain rfl) q
    | none =>
      rw [ql] at e
      simp only at e ⊢
      split at e
      · rename_i hz
        cases e
        obtain rfl := Rep.frz_nil _ w g hz h2
        exact same_q hs h2 q
      · cases e
  · cases e
theorem de_tabget (x : Str) (kvs : List (Str × Str)) (D : ∃ es n, KDict X.K X.w (He.ga X.K x) es n) (hv : tabSV X.K x kvs = true) (hm : X.mg x = some (.ref (He.ga X.K x))) (he : DE X W ε1 k1 e1 f1) (hf : DE X W ε2 k2 e2 f2) (hg : Gl X x := by rfl)
    (hp : ε2 = true → ∀ j, k1 ≠ .bor j := by first | exact fun h => (nomatch h) | exact fun _ j h => (nomatch h)) (hd : (x == ("__debug__" : Str)) = false := by decide)
    (hbase : attributeBase (.Name x p) "get" X.env (eval (.Name x p) X.env) = eval (.Name x p) X.env := by rfl) (hline : (apos.endLine == cpos.line) = true := by rfl)
    (hfew : ((backTo cpos (starEach [e1, e2] X.env)).all (fun x => !x.1) && (backToKw cpos (keywordEach [] X.env)).all (fun x => x.1.isSome)
      && decide (([e1, e2] : List Expr).length + ([] : List Keyword).length + (if ([] : List Keyword).isEmpty then 0 else 1) < 30)) = true := by rfl)
    (htr : backTo cpos (starEach [e1, e2] X.env) = [(false, eval e1 X.env), (false, eval e2 X.env)] := by rfl) :
    DE X W (ε1 || (ε2 || false)) .own (.Call (.Attribute (.Name x p) "get" apos) [e1, e2] [] cpos) (fOp (oTabGetS kvs) (aCons f1 (aCons f2 aNil))) := by
  obtain ⟨t2, p2, s2⟩ := he.ex
  obtain ⟨t3, p3, s3⟩ := hf.ex
  obtain ⟨es, n, D⟩ := D
  exact ⟨_, pe_tgetS D hv hg hm p2 p3 ⟨hbase, hfew, hline, htr⟩ hd, esim_op (asim_cons s2 (asim_cons s3 asim_nil (fun h => by cases h)) (by simpa using hp)) ok_tgetS fun σ H Q h => h⟩
end
end DL
namespace DL
open PySem PySem.Spec PyProof.Rows L2
section
variable {X : Cx} {W : WX} {ε : Bool} {n kk kc : Nat} {fA : Addr} {fd : FuncData} {ps ks : List Str} {kinds : List Bool} {Fx : List D → Fo} {es : List Expr} {kws : List Keyword} {x : Str} {p pos : Pos} {ar : List Ar} {cs : List CK} {fa : FA}
end
end DL
namespace DL
open PySem PySem.Spec PyProof.Rows L2
end DL
namespace DL
open PySem PySem.Spec PyProof.Rows L2
end DL
namespace DL
open PySem PySem.Spec PyProof.Rows L2
section
variable {K : PySem.W.Frag} {Z : Zst} {F1 H1 : Hp} {env1 : Evn} {fp1 : Fp}
end
section
variable {X : Cx} {W : WX} {ε : Bool} {k : Kd} {ks : List Kd} {ms : List Nat} {tg e a b c : Expr} {body : List Stmt} {fe : FE} {fa : FA} {gD : Md → D → Evn → Option Evn} {fb : FS} {pos p : Pos}
end
end DL
namespace DL
open PySem PySem.Spec L2
abbrev ApL (frs : List (List Addr)) : Prop := frs.Pairwise fun f g => ∀ a ∈ f, a ∉ g
section
variable (K : PySem.W.Frag)
structure Grp (F H : Hp) (v : V) (fp : List Addr) (ds : List D) (vs : List V) (frs : List (List Addr)) (put : List D → Option D) : Prop where
  rep : RepA K F H ds vs frs
  sub : ∀ f ∈ frs, ∀ a ∈ f, a ∈ fp
  ap : ApL frs
  put : ∀ F' H' ds' frs' d', (∀ a u, F a = some u → F' a = some u) → (∀ a ∈ fp, (∀ f ∈ frs, a ∉ f) → ∀ u, Has H a u → Has H' a u) → RepA K F' H' ds' vs frs' → ApL frs' → (∀ f ∈ frs', ∀ a ∈ f, a ∈ fp → ∃ g ∈ frs, a ∈ g) → put ds' = some d' →
    ∃ fp', Rep K F' H' d' v fp' ∧ ∀ a ∈ fp', (a ∈ fp ∧ ∀ f ∈ frs, a ∉ f) ∨ ∃ f ∈ frs', a ∈ f
end
def putW : List D → Option D
  | [d] => some d
  | _ => none
def putF (g : D → D) : List D → Option D
  | [d] => if d.frz = false then some (g d) else none
  | _ => none
def putP (g : D → D) : List D → Option D
  | [d, e] => if d.frz = false then some (g (.node true .tup [d, e])) else none
  | _ => none
section
variable {K : PySem.W.Frag} {F H F' H' : Hp} {v w x y : V} {fp fs : List Addr} {d e sub : D} {g : D → D}
end
structure G where
  j : Nat
  v : V
  ds : List D
  vs : List V
  frs : List (List Addr)
  put : List D → Option D
section
variable {K : PySem.W.Frag} {F H F' H' : Hp}
theorem RepA.split : ∀ {vs1 vs2 : List V} {ms : List D} {nfs : List (List Addr)}, RepA K F H ms (vs1 ++ vs2) nfs → RepA K F H (ms.take vs1.length) vs1 (nfs.take vs1.length) ∧ RepA K F H (ms.drop vs1.length) vs2 (nfs.drop vs1.length)
  | [], vs2, ms, nfs, h => ⟨trivial, h⟩
  | v :: vs1, vs2, [], nfs, h => h.elim
  | v :: vs1, vs2, m :: ms, [], h => h.elim
  | v :: vs1, vs2, m :: ms, f :: nfs, h => by
    obtain ⟨h1, h2⟩ := h
    obtain ⟨p, q⟩ := RepA.split h2
    exact ⟨⟨h1, p⟩, q⟩
theorem RepA.app : ∀ {ds1 ds2 : List D} {vs1 vs2 : List V} {f1 f2 : List (List Addr)}, RepA K F H ds1 vs1 f1 → RepA K F H ds2 vs2 f2 → RepA K F H (ds1 ++ ds2) (vs1 ++ vs2) (f1 ++ f2)
  | [], ds2, [], vs2, [], f2, _, h => h
  | d :: ds1, ds2, v :: vs1, vs2, f :: f1, f2, h, h' => ⟨h.1, RepA.app h.2 h'⟩
  | [], _, _ :: _, _, _, _, h, _ => h.elim
  | [], _, [], _, _ :: _, _, h, _ => h.elim
  | _ :: _, _, [], _, _, _, h, _ => h.elim
  | _ :: _, _, _ :: _, _, [], _, h, _ => h.elim
variable {env : Evn} {σ : L2.St} {fp : Fp} {Z : Zst}
structure GOk (K : PySem.W.Frag) (F H : Hp) (env : Evn) (σ : L2.St) (fp : Fp) (g : G) : Prop where
  own : isOwn env g.j
  at_ : σ[g.j]? = some (some g.v)
  grp : Grp K F H g.v (fp g.j) g.ds g.vs g.frs g.put
end
end DL
namespace DL
open PySem PySem.Spec L2
inductive Ix where
  | c (n : Nat) | v (k : Nat)
inductive Ls where
  | wh (j : Nat) | it (j : Nat) (ix : Ix) | pr (j : Nat) (ix : Ix)
def Ls.j : Ls → Nat
  | .wh j => j
  | .it j _ => j
  | .pr j _ => j
def ixD (env : Evn) : Ix → Option Int
  | .c n => some n
  | .v k => match env[k]? with
    | some (.own (.int i)) => some i
    | _ => none
def tk (env : Evn) : Ls → Option (List D × (List D → Option D))
  | .wh j => match env[j]? with
    | some (.own d) => some ([d], putW)
    | _ => none
  | .it j ix => match env[j]?, ixD env ix with
    | some (.own (.node true .lst xs)), some i => (ixN xs.length i).bind fun n => (xs[n]?).map fun c => ([c], putF fun c' => .node true .lst (xs.set n c'))
    | _, _ => none
  | .pr j ix => match env[j]?, ixD env ix with
    | some (.own (.node true .lst xs)), some i => (ixN xs.length i).bind fun n => match xs[n]? with
      | some (.node true .tup [s, w]) => some ([s, w], putP fun c' => .node true .lst (xs.set n c'))
      | _ => none
    | _, _ => none
section
variable {K : PySem.W.Frag} {F H F' H' : Hp} {env : Evn} {σ : L2.St} {fp : Fp} {Z : Zst} {W : WX}
end
end DL
namespace DL
open PySem PySem.Spec PyProof.Rows L2
section
variable {X : Cx} {W : WX} {e ie : Expr} {es : List Expr} {ls : List Ls} {j k n : Nat} {ix : Ix} {pos p1 p2 p3 p4 p5 p6 : Pos} {x : Str}
variable {kk kc : Nat} {fA : Addr} {fd : FuncData} {ps : List Str} {kinds : List Bool} {Fx : List D → Fo} {ar : List Ar} {p : Pos}
end
end DL
namespace DL
open PySem PySem.Spec L2
end DL
namespace ZS
open PySem
open PySem.Sem (wp)
abbrev Rec (h : Heap) (z TI TO : Addr) (f0 : Value) : Prop := h.get? z = some { cls := .type "zip", dict := none, data := .fields #[f0, .bool false, .bool true, .ref TI, .ref TO], slots := #[] }
section
variable {prog : Program} {w : World} {A : Around} {E : Value → Shared → Prop} {s : Shared} {z TI TO i1 i2 it : Addr} {fp fp1 fp2 : List Addr} {n n1 n2 i : Nat} {P P1 P2 : Nat → Value → Prop} {St St1 St2 : Nat → Heap → Prop} {a1 a2 : Value}
theorem noe_item {Q : Option Value → Shared → Prop} (D : Draws prog w A it fp n P St) (hi : i < n) (st : St i s.heap)
    (hQ : ∀ x h' tk, P i x → St (i + 1) h' → Heap.SameBut it s.heap h' → Q (some x) { s with heap := h', toks := tk }) : wpAny (model prog w) A (Builtin.SmallTypes.nextOrEnd (.ref it)) Q E s := by
  unfold Builtin.SmallTypes.nextOrEnd
  exact wpAny_bind (wpAny_attempt (D.item i s _ _ hi st fun x h' tk a b c => wpAny_pure (hQ x h' tk a b c)))
theorem noe_end {Q : Option Value → Shared → Prop} (D : Draws prog w A it fp n P St) (st : St n s.heap)
    (hQ : ∀ h', Heap.ExtBut it s.heap h' → Q none { s with heap := h' }) : wpAny (model prog w) A (Builtin.SmallTypes.nextOrEnd (.ref it)) Q E s := by
  unfold Builtin.SmallTypes.nextOrEnd
  refine wpAny_bind (wpAny_attempt (D.done s _ _ st fun h' e hx ⟨o, ho, hc⟩ => ?_))
  exact wpAny_bind (wpAny_isInstance (T := "StopIteration") (b := true) ⟨o, ho, hc⟩ isSubtype_stop (wpAny_pure (hQ h' hx)))
theorem next_end {Q : Fin → Shared → Prop} (hh : A.handled = none) (S : ZipSep2 z TI TO i1 i2 fp1 fp2) (D1 : Draws prog w A i1 fp1 n P1 St1) (D2 : Draws prog w A i2 fp2 n P2 St2)
    (hz : Rec s.heap z TI TO .none) (hTI : IsTupOf2 s.heap TI (.ref i1) (.ref i2)) (hTO : IsTupOf2 s.heap TO a1 a2) (st1 : St1 n s.heap) (st2 : St2 n s.heap)
    (hE : ∀ h' e, (∀ c o, c ≠ z → c ≠ TO → c ≠ i1 → c ≠ i2 → s.heap.get? c = some o → h'.get? c = some o) → (∃ o, h'.get? e = some o ∧ o.cls = .type "StopIteration") → E (.ref e) { s with heap := h' }) :
    wpAny (model prog w) A (Builtin.«zip.__next__» ⟨[.ref z], []⟩) Q E s := by
  obtain ⟨hp, g, d, tk0, os⟩ := s
  show wpAny _ _ (field (.ref z) 2 >>= _) _ _ _
  refine wpAny_bind (wpAny_field hz rfl (x := .bool true) rfl ?_)
  show wpAny _ _ (field (.ref z) 3 >>= _) _ _ _
  refine wpAny_bind (wpAny_field hz rfl (x := .ref TI) rfl (wpAny_bind (wpAny_seqItems hTI rfl ?_)))
  show wpAny _ _ (Builtin.SmallTypes.ownedTupleIsFree (.ref z) >>= _) _ _ _
  refine wpAny_bind ?_
  unfold Builtin.SmallTypes.ownedTupleIsFree
  refine wpAny_bind (wpAny_field hz rfl (x := .none) rfl (wpAny_pure ?_))
  simp only [if_true]
  refine wpAny_bind (wpAny_rule (wpAny_bind (wpAny_field hz rfl (x := .ref TO) rfl (wpAny_bind (wpAny_setField_rec hz (by simp) fun g0 hz0 hs0 => ?_)))))
  replace hz0 : Rec g0 z TI TO .ellipsis := hz0
  replace hs0 : Heap.SameBut z hp g0 := hs0
  refine wpAny_bind ?_
  simp only [List.zipIdx_cons, List.zipIdx_nil, List.forIn_cons, List.forIn_nil]
  refine wpAny_bind (wpAny_bind (wpAny_onRaise ?_))
  show wpAny _ _ (Builtin.SmallTypes.nextOrEnd (.ref i1)) _ _ ⟨g0, g, d, tk0, os⟩
  refine noe_end D1 (D1.over st1 hs0 S.zf1) fun q hq => ?_
  replace hq : Heap.ExtBut i1 g0 q := hq
  have hzq : Rec q z TI TO .ellipsis := hq _ _ S.zi1 hz0
  refine wpAny_bind (wpAny_setField_rec (s := ⟨q, g, d, tk0, os⟩) hzq (by simp) fun q' hz' hq' => wpAny_bind ?_)
  replace hq' : Heap.SameBut z q q' := hq'
  show wpAny _ _ (_ >>= _) _ _ ⟨q', g, d, tk0, os⟩
  refine wpAny_bind ?_
  simp only [List.drop_succ_cons, List.drop_zero, List.zipIdx_cons, List.zipIdx_nil, List.forIn_cons, List.forIn_nil]
  have st2' : St2 n q' := D2.over (D2.frame _ _ _ (D2.over st2 hs0 S.zf2) fun b hb o e => hq b o (fun x => S.sep1_2 (x ▸ hb)) e) hq' S.zf2
  refine wpAny_bind (wpAny_bind (noe_end (s := ⟨q', g, d, tk0, os⟩) D2 st2' fun r hr => ?_))
  replace hr : Heap.ExtBut i2 q' r := hr
  refine wpAny_pure (wpAny_pure (wpAny_bind (wpAny_rule ?_)))
  show wpAny _ _ (newExc (.type "StopIteration") [] >>= _) _ _ ⟨r, g, d, tk0, os⟩
  refine wpAny_bind ?_
  simp only [newExc, newTuple]
  refine wpAny_bind (wpAny_newObj_type ?_ (by size_fits))
  refine wpAny_bind (m := firstArgMember _ _) (wpAny_of_eq (a := Value.none) (by first | rfl | (simp only [firstArgMember]; rfl)) (wpAny_newObj_type ?_ (by size_fits)))
  simp only [raiseNew]
  refine wpAny_bind (wpAny_handled ?_)
  rw [hh]
  refine wpAny_bind (wpAny_pure (wpAny_throw (hE _ _ (fun c o cz cT c1 c2 e => ?_) ⟨_, Heap.get?_push_size _ rfl, rfl⟩)))
  exact Heap.get?_push_of_some _ (Heap.get?_push_of_some _ (hr _ _ c2 (hq'.extBut _ _ cz (hq _ _ c1 (hs0.extBut _ _ cz e)))))
theorem next_item {Q : Value → Shared → Prop} (S : ZipSep2 z TI TO i1 i2 fp1 fp2) (D1 : Draws prog w A i1 fp1 n1 P1 St1) (D2 : Draws prog w A i2 fp2 n2 P2 St2)
    (hz : Rec s.heap z TI TO .none) (hTI : IsTupOf2 s.heap TI (.ref i1) (.ref i2)) (hTO : IsTupOf2 s.heap TO a1 a2) (st1 : St1 i s.heap) (st2 : St2 i s.heap) (l1 : i < n1) (l2 : i < n2)
    (hQ : ∀ x y h' tk, P1 i x → P2 i y → Rec h' z TI TO (rawInt s.heap.objs.size) → IsTupOf2 h' TO x y → St1 (i + 1) h' → St2 (i + 1) h' → IsTupOf2 h' s.heap.objs.size x y → h'.objs.size = s.heap.objs.size + 1 →
      (∀ c o, c ≠ z → c ≠ TO → c ≠ i1 → c ≠ i2 → s.heap.get? c = some o → h'.get? c = some o) → Q (.ref s.heap.objs.size) { s with heap := h', toks := tk }) :
    wpAny (model prog w) A (Builtin.«zip.__next__» ⟨[.ref z], []⟩) (fun fin s' => ∃ v, fin = .done (.ret v) ∧ Q v s') E s := by
  obtain ⟨hp, g, d, tk0, os⟩ := s
  show wpAny _ _ (field (.ref z) 2 >>= _) _ _ _
  refine wpAny_bind (wpAny_field hz rfl (x := .bool true) rfl ?_)
  show wpAny _ _ (field (.ref z) 3 >>= _) _ _ _
  refine wpAny_bind (wpAny_field hz rfl (x := .ref TI) rfl (wpAny_bind (wpAny_seqItems hTI rfl ?_)))
  show wpAny _ _ (Builtin.SmallTypes.ownedTupleIsFree (.ref z) >>= _) _ _ _
  refine wpAny_bind ?_
  unfold Builtin.SmallTypes.ownedTupleIsFree
  refine wpAny_bind (wpAny_field hz rfl (x := .none) rfl (wpAny_pure ?_))
  simp only [if_true]
  refine wpAny_bind (wpAny_rule (wpAny_bind (wpAny_field hz rfl (x := .ref TO) rfl (wpAny_bind (wpAny_setField_rec hz (by simp) fun g0 hz0 hs0 => ?_)))))
  replace hz0 : Rec g0 z TI TO .ellipsis := hz0
  replace hs0 : Heap.SameBut z hp g0 := hs0
  refine wpAny_bind ?_
  simp only [List.zipIdx_cons, List.zipIdx_nil, List.forIn_cons, List.forIn_nil]
  refine wpAny_bind (wpAny_bind (wpAny_onRaise ?_))
  show wpAny _ _ (Builtin.SmallTypes.nextOrEnd (.ref i1)) _ _ ⟨g0, g, d, tk0, os⟩
  refine noe_item D1 l1 (D1.over st1 hs0 S.zf1) fun x p1 t1 px sx sp1 => ?_
  replace sp1 : Heap.SameBut i1 g0 p1 := sp1
  have u1 : IsTupOf2 p1 TO a1 a2 := sp1.extBut _ _ S.Ti1 (hs0.extBut _ _ S.TOz hTO)
  refine wpAny_bind (wpAny_seqItems (s := ⟨p1, g, d, t1, os⟩) u1 rfl (wpAny_bind (updateSeq_IsTupOf2 (s := ⟨p1, g, d, t1, os⟩) u1 fun g1 v1 sg1 => ?_)))
  replace v1 : IsTupOf2 g1 TO x a2 := v1
  replace sg1 : Heap.SameBut TO p1 g1 := sg1
  refine wpAny_bind (wpAny_letGo (wpAny_pure (wpAny_bind (wpAny_bind (wpAny_onRaise ?_)))))
  show wpAny _ _ (Builtin.SmallTypes.nextOrEnd (.ref i2)) _ _ ⟨g1, g, d, t1, os⟩
  refine noe_item D2 l2 (D2.over (D2.over (D2.over st2 hs0 S.zf2) sp1 S.sep1_2) sg1 S.Tf2) fun y p2 t2 py sy sp2 => ?_
  replace sp2 : Heap.SameBut i2 g1 p2 := sp2
  have u2 : IsTupOf2 p2 TO x a2 := sp2.extBut _ _ S.Ti2 v1
  refine wpAny_bind (wpAny_seqItems (s := ⟨p2, g, d, t2, os⟩) u2 rfl (wpAny_bind (updateSeq_IsTupOf2 (s := ⟨p2, g, d, t2, os⟩) u2 fun g2 v2 sg2 => ?_)))
  replace v2 : IsTupOf2 g2 TO x y := v2
  replace sg2 : Heap.SameBut TO p2 g2 := sg2
  refine wpAny_bind (wpAny_letGo (wpAny_pure (wpAny_pure ?_)))
  refine wpAny_bind (wpAny_seqItems (s := ⟨g2, g, d, t2, os⟩) v2 rfl (wpAny_bind (wpAny_newTuple ?_)))
  have sz : g2.objs.size = hp.objs.size := by rw [sg2.1, sp2.1, sg1.1, sp1.1, hs0.1]
  have rz : Rec g2 z TI TO .ellipsis := sg2.extBut _ _ S.TOz.symm (sp2.extBut _ _ S.zi2 (sg1.extBut _ _ S.TOz.symm (sp1.extBut _ _ S.zi1 hz0)))
  have kk : ∀ c o, c ≠ z → c ≠ TO → c ≠ i1 → c ≠ i2 → hp.get? c = some o → g2.get? c = some o := fun c o cz cT c1 c2 e => sg2.extBut _ _ cT (sp2.extBut _ _ c2 (sg1.extBut _ _ cT (sp1.extBut _ _ c1 (hs0.extBut _ _ cz e))))
  have j1 : St1 (i + 1) g2 := D1.over (D1.over (D1.over sx sg1 S.Tf1) sp2 S.sep2_1) sg2 S.Tf1
  have j2 : St2 (i + 1) g2 := D2.over sy sg2 S.Tf2
  have zlt : z < g2.objs.size := Heap.lt_size rz
  show wpAny _ _ (Builtin.SmallTypes.ownedTupleHandOut (.ref z) (.ref g2.objs.size) >>= _) _ _ ⟨g2.push { cls := .type "tuple", data := .seq #[x, y] }, g, d, t2, os⟩
  refine wpAny_bind ?_
  unfold Builtin.SmallTypes.ownedTupleHandOut
  have r6 : Rec (g2.push { cls := .type "tuple", data := .seq #[x, y] }) z TI TO .ellipsis := Heap.get?_push_of_some _ rz
  refine wpAny_bind (wpAny_setField_rec r6 (by simp) fun h7 r7 s7 => ?_)
  replace r7 : Rec h7 z TI TO (rawInt g2.objs.size) := r7
  refine wpAny_setField_rec r7 (by simp) fun h8 r8 s8 => ?_
  replace r8 : Rec h8 z TI TO (rawInt g2.objs.size) := r8
  replace s7 : Heap.SameBut z (g2.push { cls := .type "tuple", data := .seq #[x, y] }) h7 := s7
  replace s8 : Heap.SameBut z h7 h8 := s8
  have up : ∀ c o, c ≠ z → g2.get? c = some o → h8.get? c = some o := fun c o c1 e => s8.extBut _ _ c1 (s7.extBut _ _ c1 (Heap.get?_push_of_some _ e))
  have hT : IsTupOf2 h8 g2.objs.size x y := s8.extBut _ _ (Nat.ne_of_gt zlt) (s7.extBut _ _ (Nat.ne_of_gt zlt) (Heap.get?_push_size _ rfl))
  have z8 : h8.objs.size = g2.objs.size + 1 := by rw [s8.1, s7.1, Heap.size_push]
  rw [sz] at r8 hT z8
  refine wpAny_pure ⟨_, rfl, ?_⟩
  show Q (.ref g2.objs.size) ⟨h8, g, d, t2, os⟩
  rw [sz]
  exact hQ x y h8 t2 px py r8 (up _ _ S.TOz v2) (D1.frame _ _ _ j1 fun b hb o e => up b o (fun q => S.zf1 (q ▸ hb)) e) (D2.frame _ _ _ j2 fun b hb o e => up b o (fun q => S.zf2 (q ▸ hb)) e) hT z8 fun c o cz cT c1 c2 e => up c o cz (kk c o cz cT c1 c2 e)
theorem pn_item {Q : Option Value → Shared → Prop} (S : ZipSep2 z TI TO i1 i2 fp1 fp2) (D1 : Draws prog w A.in1 i1 fp1 n1 P1 St1) (D2 : Draws prog w A.in1 i2 fp2 n2 P2 St2)
    (hz : Rec s.heap z TI TO .none) (hTI : IsTupOf2 s.heap TI (.ref i1) (.ref i2)) (hTO : IsTupOf2 s.heap TO a1 a2) (st1 : St1 i s.heap) (st2 : St2 i s.heap) (l1 : i < n1) (l2 : i < n2)
    (hQ : ∀ x y h' tk, P1 i x → P2 i y → Rec h' z TI TO (rawInt s.heap.objs.size) → IsTupOf2 h' TO x y → St1 (i + 1) h' → St2 (i + 1) h' → IsTupOf2 h' s.heap.objs.size x y → h'.objs.size = s.heap.objs.size + 1 →
      (∀ c o, c ≠ z → c ≠ TO → c ≠ i1 → c ≠ i2 → s.heap.get? c = some o → h'.get? c = some o) → Q (some (.ref s.heap.objs.size)) { s with heap := h', toks := tk }) :
    wpAny (model prog w) A (pyNext (.ref z)) Q E s := by
  have hT : s.TypeIs (.ref z) "zip" := ⟨_, hz, rfl⟩
  unfold pyNext
  refine wpAny_bind (wpAny_attempt (wpAny_callSpecial?_slot (name := Str.ofString "__next__") hT F.slot_zip_next (wpAny_call_entry F.slot_zip_next hT F.entry_zip_next ?_ (F.args_zip_next_1 _))))
  exact next_item S D1 D2 hz hTI hTO st1 st2 l1 l2 fun x y h' tk b1 b2 b3 b4 b5 b6 b7 b8 b9 => wpAny_pure (hQ x y h' tk b1 b2 b3 b4 b5 b6 b7 b8 b9)
theorem pn_end {Q : Option Value → Shared → Prop} (hh : A.in1.handled = none) (S : ZipSep2 z TI TO i1 i2 fp1 fp2) (D1 : Draws prog w A.in1 i1 fp1 n P1 St1) (D2 : Draws prog w A.in1 i2 fp2 n P2 St2)
    (hz : Rec s.heap z TI TO .none) (hTI : IsTupOf2 s.heap TI (.ref i1) (.ref i2)) (hTO : IsTupOf2 s.heap TO a1 a2) (st1 : St1 n s.heap) (st2 : St2 n s.heap)
    (hQ : ∀ h', (∀ c o, c ≠ z → c ≠ TO → c ≠ i1 → c ≠ i2 → s.heap.get? c = some o → h'.get? c = some o) → Q none { s with heap := h' }) : wpAny (model prog w) A (pyNext (.ref z)) Q E s := by
  have hT : s.TypeIs (.ref z) "zip" := ⟨_, hz, rfl⟩
  unfold pyNext
  refine wpAny_bind (wpAny_attempt (wpAny_callSpecial?_slot (name := Str.ofString "__next__") hT F.slot_zip_next (wpAny_call_entry F.slot_zip_next hT F.entry_zip_next ?_ (F.args_zip_next_1 _))))
  refine next_end hh S D1 D2 hz hTI hTO st1 st2 fun h' e hk ⟨o, ho, hc⟩ => ?_
  exact wpAny_bind (wpAny_isInstance (T := "StopIteration") (b := true) ⟨o, ho, hc⟩ isSubtype_stop (wpAny_pure (hQ _ hk)))
theorem go {elts : List Expr} {k : Nat} {pos : Pos} {T : Addr} {Q : Unit → Shared → Prop} (hz : Rec s.heap z TI TO (rawInt T))
    (hQ : ∀ h', Rec h' z TI TO .none → Heap.SameBut z s.heap h' → Q () { s with heap := h' }) : wpAny (model prog w) A (letOwnedTupleGo (.Tuple elts k pos) (.ref z) (.ref T)) Q E s := by
  unfold letOwnedTupleGo
  refine wpAny_bind (wpAny_load hz ?_)
  show wpAny _ _ (ite (_ = true) _ _) Q E s
  rw [if_pos (by simp)]
  refine wpAny_bind (wpAny_rule ?_)
  show wpAny _ _ (setField (.ref z) 0 .none) Q E s
  exact wpAny_setField_rec hz (by simp) fun h' a b => hQ h' a b
theorem self {f0 : Value} {Q : Value → Shared → Prop} (hz : Rec s.heap z TI TO f0) (h : Q (.ref z) s) : wpAny (model prog w) A (pyIter (.ref z)) Q E s := by
  have hT : s.TypeIs (.ref z) "zip" := ⟨_, hz, rfl⟩
  refine wpAny_pyIter_slot hT F.slot_zip_iter (wpAny_call_entry F.slot_zip_iter hT F.entry_zip_iter ?_ (F.args_zip_iter_1 _))
  show wpAny _ _ (ret (.ref z)) _ _ s
  exact wpAny_pure ⟨_, rfl, "zip", _, hT, F.slot_zip_next.lookup, h⟩
end
def kwS : Str × Value := (Str.ofString "strict", .bool true)
theorem tc (a b : Value) : checkTypeCall "zip" ⟨[a, b], [kwS]⟩ = pure () := by kernel_rfl
theorem nc (a b : Value) : checkBuiltinCall "zip.__new__" ⟨[.type "zip", a, b], [kwS]⟩ = pure () := by kernel_rfl
theorem ao (o a b : Value) : argsOk "object.__init__" ⟨[o, a, b], [kwS]⟩ := by unfold argsOk; kernel_rfl
abbrev zT (h : Heap) (o1 o2 : Obj) : Heap := ((h.push o1).push o2).push { cls := .type "tuple", data := .seq #[.ref h.objs.size, .ref (h.push o1).objs.size] }
abbrev zO (h : Heap) (o1 o2 : Obj) : Heap := (zT h o1 o2).push { cls := .type "tuple", data := .seq #[.none, .none] }
abbrev zZ (h : Heap) (o1 o2 : Obj) : Heap := (zO h o1 o2).push { cls := .type "zip", data := .fields #[.none, .bool false, .bool true, .ref ((h.push o1).push o2).objs.size, .ref (zT h o1 o2).objs.size] }
theorem meets {v1 v2 : Value} {o1 o2 : Obj} {H1 H2 : Heap → Prop} (B1 : Begins v1 o1 H1) (B2 : Begins v2 o2 H2) :
    Meets (Builtin.«zip.__new__» ⟨[.type "zip", v1, v2], [kwS]⟩) (fun _ R s => (H1 s.heap ∧ H2 s.heap) ∧ R (.ok (.ret (.ref (zO s.heap o1 o2).objs.size))) { s with heap := zZ s.heap o1 o2 }) :=
  .of_wp fun prog w A R s h => by
    obtain ⟨hp, g, d, tk, os⟩ := s
    obtain ⟨⟨h1, h2⟩, h⟩ := h
    have hsub := sub_zip
    have q1 : ∀ {A' : Around} {E : Value → Shared → Prop} {Q : Value → Shared → Prop}, Q (.ref hp.objs.size) ⟨hp.push o1, g, d, tk, os⟩ → wpAny (model prog w) A' (pyIter v1) Q E ⟨hp, g, d, tk, os⟩ := fun q => B1.iter prog w _ _ ⟨hp, g, d, tk, os⟩ _ h1 q
    have q2 : ∀ {A' : Around} {E : Value → Shared → Prop} {Q : Value → Shared → Prop}, Q (.ref (hp.push o1).objs.size) ⟨(hp.push o1).push o2, g, d, tk, os⟩ → wpAny (model prog w) A' (pyIter v2) Q E ⟨hp.push o1, g, d, tk, os⟩ :=
      fun q => B2.iter prog w _ _ ⟨hp.push o1, g, d, tk, os⟩ _ (B2.keeps _ _ h2 fun b o' e => Heap.get?_push_of_some _ e) q
    have e1 : (Str.ofString "strict" != ("strict" : Str)) = false := by decide +kernel
    unfold kwS
    wp_walk using q1, q2
    exact ⟨_, rfl, h⟩
section
variable {prog : Program} {w : World} {A : Around} {E : Value → Shared → Prop} {s : Shared}
theorem begins {v1 v2 : Value} {o1 o2 : Obj} {H1 H2 : Heap → Prop} {Q : Value → Shared → Prop} (B1 : Begins v1 o1 H1) (B2 : Begins v2 o2 H2) (h1 : H1 s.heap) (h2 : H2 s.heap)
    (h : ∀ h', Rec h' (s.heap.objs.size + 4) (s.heap.objs.size + 2) (s.heap.objs.size + 3) .none → IsTupOf2 h' (s.heap.objs.size + 2) (.ref s.heap.objs.size) (.ref (s.heap.objs.size + 1)) →
      IsTupOf2 h' (s.heap.objs.size + 3) .none .none → h'.get? s.heap.objs.size = some o1 → h'.get? (s.heap.objs.size + 1) = some o2 → (∀ c o, s.heap.get? c = some o → h'.get? c = some o) → Q (.ref (s.heap.objs.size + 4)) { s with heap := h' }) :
    wpAny (model prog w) A (call (.type "zip") [v1, v2] [kwS]) Q E s := by
  refine callType_newKw F.called_zip (by decide) (tc _ _) (nc _ _) (fun o => ao o _ _) F.entry_zip_new (meets B1 B2) ⟨⟨h1, h2⟩, ?_⟩
  have z1 : (s.heap.push o1).objs.size = s.heap.objs.size + 1 := by rw [Heap.size_push]
  have z2 : ((s.heap.push o1).push o2).objs.size = s.heap.objs.size + 2 := by rw [Heap.size_push, z1]
  have z3 : (zT s.heap o1 o2).objs.size = s.heap.objs.size + 3 := by rw [Heap.size_push, z2]
  have z4 : (zO s.heap o1 o2).objs.size = s.heap.objs.size + 4 := by rw [Heap.size_push, z3]
  have p1 : ∀ {h : Heap} {o : Obj} {c : Addr} {x : Obj}, h.get? c = some x → (h.push o).get? c = some x := fun e => Heap.get?_push_of_some _ e
  have g5 : (zZ s.heap o1 o2).get? (zO s.heap o1 o2).objs.size = some _ := Heap.get?_push_size _ rfl
  have g4 : (zZ s.heap o1 o2).get? (zT s.heap o1 o2).objs.size = some _ := p1 (Heap.get?_push_size _ rfl)
  have g3 : (zZ s.heap o1 o2).get? ((s.heap.push o1).push o2).objs.size = some _ := p1 (p1 (Heap.get?_push_size _ rfl))
  have g2 : (zZ s.heap o1 o2).get? (s.heap.push o1).objs.size = some o2 := p1 (p1 (p1 (Heap.get?_push_size _ B2.free)))
  have g1 : (zZ s.heap o1 o2).get? s.heap.objs.size = some o1 := p1 (p1 (p1 (p1 (Heap.get?_push_size _ B1.free))))
  rw [z4, z3, z2] at g5
  rw [z3] at g4
  rw [z2, z1] at g3
  rw [z1] at g2
  show _ ∧ _
  rw [z4]
  exact ⟨⟨_, g5, rfl⟩, h _ g5 g3 g4 g1 g2 fun c o e => p1 (p1 (p1 (p1 (p1 e))))⟩
end
end ZS
namespace DL
open PySem PySem.Spec PyProof.Rows L2
def ItZs (K : PySem.W.Frag) (x : Str) (b : Addr) : It :=
  ⟨fun i H => ∃ ys c y, SqL K H b ys ∧ x.cps[i]? = some c ∧ ys[i]? = some y,
    fun i H v H' => ∃ T c y, v = .ref T ∧ H T = none ∧ H' = upd H T (.tup [.str ⟨#[c]⟩, y]) ∧ x.cps[i]? = some c ∧ ∀ ys, SqL K H b ys → ys[i]? = some y,
    fun i H => ∃ ys, SqL K H b ys ∧ x.cps.size ≤ i ∧ ys.length = x.cps.size⟩
theorem sep_new (I b : Nat) (h : b < I) : ZipSep2 (I + 4) (I + 2) (I + 3) I (I + 1) [I] [I + 1, b] := by
  constructor <;> (try simp) <;> (try omega)
  all_goals exact Nat.ne_of_gt (by omega)
theorem turn_zs {P : Program} {w : World} {K : PySem.W.Frag} {elts : List Expr} {kk : Nat} {tpos : Pos} {b z TI TO i1 i2 : Addr} (x : Str) (t : Tok) (S : ZipSep2 z TI TO i1 i2 [i1] [i2, b]) (hb : b ≠ i2) :
    Turn P w K (.Tuple elts kk tpos) (ItZs K x b) [z, TI, TO, i1, i2] z (fun i h => (ZS.Rec h z TI TO .none ∧ IsTupOf2 h TI (.ref i1) (.ref i2) ∧ (∃ p q, IsTupOf2 h TO p q) ∧ h.IsStrIter i1 (strIterType x) x t i ∧ h.IsListIter i2 b i) ∧ i ≤ x.cps.size) where
  mem := by simp
  obj := fun i h st c hc => by
    obtain ⟨⟨hz, hTI, ⟨p, q, hTO⟩, ⟨o1, e1, _, d1⟩, ⟨o2, e2, _, d2⟩⟩, _⟩ := st
    have e' : c = z ∨ c = TI ∨ c = TO ∨ c = i1 ∨ c = i2 := by simpa using hc
    rcases e' with q | q | q | q | q
    · rw [q]; exact ⟨_, hz, fun v q => nomatch q⟩
    · rw [q]; exact ⟨_, hTI, fun v q => nomatch q⟩
    · rw [q]; exact ⟨_, hTO, fun v q => nomatch q⟩
    · rw [q]; exact ⟨o1, e1, fun v q => by rw [d1] at q; cases q⟩
    · rw [q]; exact ⟨o2, e2, fun v q => by rw [d2] at q; cases q⟩
  keep := fun i h h' st k => by
    obtain ⟨⟨hz, hTI, ⟨p, q, hTO⟩, ⟨o1, e1, r1⟩, h2⟩, hi⟩ := st
    exact ⟨⟨k z (by simp) _ hz, k TI (by simp) _ hTI, ⟨p, q, k TO (by simp) _ hTO⟩, ⟨o1, k i1 (by simp) _ e1, r1⟩, h2.at fun o q => k i2 (by simp) o q⟩, hi⟩
  item := by
    intro X hP hw hK hc i pins s σ H E I hf st hg
    subst hP hw hK
    obtain ⟨⟨hz, hTI, ⟨p0, q0, hTO⟩, h1, h2⟩, hle⟩ := st
    obtain ⟨ys, c, y, hq, hx, hy⟩ := hg
    obtain ⟨its, rv, pl, _⟩ := I.list hq
    obtain ⟨u, hu, ru⟩ := rv.get hy
    have hh : X.A.in1.handled = none := I.ok.hd hc
    have hlt1 : i < x.cps.size := by
      rcases Nat.lt_or_ge i x.cps.size with q | q
      · exact q
      · rw [Array.getElem?_eq_none q] at hx; cases hx
    have hlt2 : i < its.toArray.size := by
      rw [List.size_toArray]
      exact (List.getElem?_eq_some_iff.mp hu).1
    have hzl : z < s.heap.objs.size := Heap.lt_size hz
    refine ZS.pn_item S (Draws.text hh i1 x t) (Draws.list hh i2 b hb its.toArray) hz hTI hTO h1 ⟨h2, pl.isList⟩ hlt1 hlt2 fun v1 v2 h' tk pv1 pv2 z' TO' n1 n2 nT hsz hk => ?_
    obtain ⟨c', u1, hc', rfl⟩ := pv1
    rw [hx] at hc'
    cases hc'
    have hu2 : v2 = u := by
      have q : its.toArray[i]? = some u := by simpa using hu
      rw [q] at pv2
      exact (Option.some.inj pv2).symm
    subst hu2
    refine ⟨_, rfl, ZS.go (s := { s with heap := h', toks := tk }) z' fun h'' z'' sb => ?_⟩
    have nT2 : h''.get? s.heap.objs.size = some { cls := .type "tuple", data := .seq #[.str ⟨#[c]⟩ u1, v2] } := (sb.2 _ (Nat.ne_of_gt hzl)).trans nT
    have new : ObjOk X.prog X.w (upd H s.heap.objs.size (.tup [.str ⟨#[c]⟩, y])) h'' s.heap.objs.size (.tup [.str ⟨#[c]⟩, y]) :=
      ⟨by show 2 ≤ sizeLine; decide, [.str ⟨#[c]⟩ u1, v2], .cons ⟨u1, rfl⟩ (.cons ru .nil), ⟨_, nT2, rfl, _, rfl⟩⟩
    have I1 : Inv X pins σ (upd H s.heap.objs.size (.tup [.str ⟨#[c]⟩, y])) { s with heap := h'', toks := tk } :=
      I.turnedNew (t' := tk) (ch := [z, TI, TO, i1, i2]) (fun c o hb q => (sb.2 c (fun q' => hb (by simp [q']))).trans (hk c o (fun q' => hb (by simp [q'])) (fun q' => hb (by simp [q'])) (fun q' => hb (by simp [q'])) (fun q' => hb (by simp [q'])) q)) hf (Nat.le_refl _) new
    refine ⟨.ref s.heap.objs.size, _, I1, rfl, ⟨_, c, y, rfl, I.hok.fresh (Nat.le_refl _), rfl, hx, fun l hl => by rw [I.list_inj hl hq]; exact hy⟩, ⟨⟨z'', ?_, ⟨.str ⟨#[c]⟩ u1, v2, ?_⟩, ?_, ?_⟩, hlt1⟩, fun c hcm => ?_⟩
    · exact (sb.2 _ S.TIz).trans (hk _ _ S.TIz S.TITO S.TIi1 S.TIi2 hTI)
    · exact (sb.2 _ S.TOz).trans TO'
    · obtain ⟨o, e, r⟩ := n1
      exact ⟨o, (sb.2 _ S.zi1.symm).trans e, r⟩
    · exact n2.1.at fun o q => (sb.2 _ S.zi2.symm).trans q
    · have hlt : c < s.heap.objs.size := by
        have e' : c = z ∨ c = TI ∨ c = TO ∨ c = i1 ∨ c = i2 := by simpa using hcm
        rcases e' with q | q | q | q | q
        · exact q ▸ hzl
        · exact q ▸ Heap.lt_size hTI
        · exact q ▸ Heap.lt_size hTO
        · obtain ⟨_, e1, _⟩ := h1; exact q ▸ Heap.lt_size e1
        · obtain ⟨_, e2, _⟩ := h2; exact q ▸ Heap.lt_size e2
      rw [upd_ne (Nat.ne_of_lt hlt)]
      exact (hf c hcm).1
  done := by
    intro X hP hw hK hc i pins s σ H E I hf st hg
    subst hP hw hK
    obtain ⟨⟨hz, hTI, ⟨p0, q0, hTO⟩, h1, h2⟩, hle⟩ := st
    obtain ⟨ys, hq, hge, hl⟩ := hg
    obtain ⟨its, rv, pl, _⟩ := I.list hq
    have hh : X.A.in1.handled = none := I.ok.hd hc
    obtain rfl : i = x.cps.size := Nat.le_antisymm hle hge
    have l2 : its.toArray.size = x.cps.size := by rw [List.size_toArray, ← rv.length, hl]
    have D2 := Draws.list (prog := X.prog) (w := X.w) hh i2 b hb its.toArray
    rw [l2] at D2
    refine ZS.pn_end hh S (Draws.text hh i1 x t) D2 hz hTI hTO h1 ⟨h2, pl.isList⟩ fun h' hk => ⟨rfl, I.turnedL (t' := s.toks) (ch := [z, TI, TO, i1, i2]) (fun c o hb q => hk c o (fun q' => hb (by simp [q'])) (fun q' => hb (by simp [q'])) (fun q' => hb (by simp [q'])) (fun q' => hb (by simp [q'])) q) hf⟩
  self := fun A i s Q E st h => ZS.self st.1.1 h
section
variable {M : Model} {A : Around} {E : Value → Shared → Prop} {s : Shared}
theorem cw_typeK {pos : Pos} {T : String} {first : List Value} {args : List (Bool × Sem Value)} {kws : List (Option Str × Sem Value)} {Q : Value → Shared → Prop} (h1 : args.any (·.1) = false) (h2 : kws.any (·.1.isNone) = false)
    (h : wpAny M A (evalArgs (.type T) true args kws) (fun a s₁ => wpAny M A (call (.type T) (first ++ a.pos) a.kw) Q E s₁) E s) : wpAny M A (callWith pos (.type T) first args kws) Q E s := by
  unfold callWith
  refine wpAny_bind (wpAny_holding (wpAny_mono h (fun a s₁ h₁ => wpAny_bind (wpAny_standAt ?_)) fun _ _ x => x))
  simp only [h1, h2, Bool.or_false]
  exact wpAny_bind (wpAny_pure (wpAny_bind (wpAny_mono h₁ (fun r s₂ hr => wpAny_bind (wpAny_holding (wpAny_point (wpAny_pure hr)))) fun _ _ x => x)))
end
def iZs (K : PySem.W.Frag) (ta : TA) : TI := fun σ H R => ta σ H fun vs H1 => ∃ x b ys, vs = [.str x, .ref b] ∧ SqL K H1 b ys ∧ R (ItZs K x b) H1
theorem pi_zs {X : Cx} {e e2 : Expr} {ta : TA} {p pos p3 p4 tpos : Pos} {elts : List Expr} {kk jc : Nat} (hg : Gl X "zip") (hm : X.mg "zip" = none) (ha : PA X [e, e2] ta)
    (he : starEach [e, e2] X.env = (false, eval e X.env) :: starEach [e2] X.env := by rfl) (hpl : (backTo pos (starEach [e, e2] X.env)).any (·.1) = false := by rfl) :
    PI X (.Tuple elts kk tpos) (.Call (.Name "zip" p) [e, e2] [⟨some (Str.ofString "strict"), .Constant (.bool true) jc p4, p3⟩] pos) (iZs X.K ta) := by
  refine ⟨fun pins s σ H R I h => ?_⟩
  refine wpAny_Call_Name_kw (ld_blt I hg hm PyProof.Rows.boot_zip (cw_typeK hpl rfl ?_))
  refine evalArgs_kw2 rfl (thn (ha.run pos pins s σ H _ I h) fun us s1 ⟨vs, H1, I1, r1, q1⟩ => ?_) he
  refine thn ((pk_cons pe_bl pk_nil).run pos pins s1 σ H1 (fun zs H2 => zs = [V.bl true] ∧ H2 = H1) I1 ⟨rfl, rfl⟩) fun ks s2 z => ?_
  obtain ⟨zs, H2, I2, r2, rfl, rfl⟩ := z
  obtain ⟨x, b, ys, rfl, hq, q⟩ := q1
  cases r2 with
  | cons r2 rr2 =>
    cases rr2
    cases r2
    cases r1 with
    | cons r rr =>
      cases rr with
      | cons r' rr =>
        cases rr
        cases r'
        obtain ⟨t, rfl⟩ := r
        obtain ⟨its, rv, pl, _⟩ := I2.list hq
        show wpAny _ _ (call (.type "zip") [.str x t, .ref b] [ZS.kwS]) _ _ s2
        refine ZS.begins (begins_text x t) (begins_list b its.toArray) trivial pl.isList fun h' hz hTI hTO h1 h2 hk => ZS.self hz ?_
        have I3 : L2.Inv X pins σ H2 { s2 with heap := h' } := I2.kept (t' := s2.toks) hk
        refine ⟨s2.heap.objs.size + 4, [s2.heap.objs.size + 4, s2.heap.objs.size + 2, s2.heap.objs.size + 3, s2.heap.objs.size, s2.heap.objs.size + 1], _, _, H2, rfl, I3, turn_zs x t (sep_new s2.heap.objs.size b pl.lt) (Nat.ne_of_lt (Nat.lt_succ_of_lt pl.lt)), ⟨⟨hz, hTI, ⟨_, _, hTO⟩, ⟨_, h1, rfl, rfl⟩, ⟨_, h2, rfl, rfl⟩⟩, Nat.zero_le _⟩, fun c hcm => ?_, q⟩
        have e' : c = s2.heap.objs.size + 4 ∨ c = s2.heap.objs.size + 2 ∨ c = s2.heap.objs.size + 3 ∨ c = s2.heap.objs.size ∨ c = s2.heap.objs.size + 1 := by simpa using hcm
        have hle : s2.heap.objs.size ≤ c := by
          rcases e' with z | z | z | z | z <;> rw [z]
          · exact Nat.le_add_right _ _
          · exact Nat.le_add_right _ _
          · exact Nat.le_add_right _ _
          · exact Nat.le_refl _
          · exact Nat.le_add_right _ _
        exact I2.fpOk hle (I2.hok.fresh hle)
def zsD (x : Str) (xs : List D) : List D := List.zipWith (fun c d => .node false .tup [.str ⟨#[c]⟩, d]) x.cps.toList xs
def iZsD (k2 : Kd) (fa : FA) : Evn → Rs (Md × List D × Bool) := fun env => (fa env).bind fun ds e1 => match ds with
  | [.str x, d] => (match walkD k2 d e1 with
    | some (md, .node _ .lst xs) => if frzL xs = true ∧ xs.length = x.cps.size then .ok (md, zsD x xs, false) e1 else .stuck
    | _ => .stuck)
  | _ => .stuck
section
variable {X : Cx} {K : PySem.W.Frag} {W : WX} {ε : Bool} {k k2 : Kd} {F H F1 H1 : Hp} {env env1 : Evn} {fp fp1 : Fp} {Z : Zst} {σ σ1 : L2.St}
theorem zsD_get {x : Str} {xs : List D} {i : Nat} {d : D} (h : (zsD x xs)[i]? = some d) : ∃ c y, x.cps[i]? = some c ∧ xs[i]? = some y ∧ d = .node false .tup [.str ⟨#[c]⟩, y] := by
  unfold zsD at h
  rw [List.getElem?_zipWith] at h
  cases h1 : x.cps.toList[i]? with
  | none => rw [h1] at h; cases h
  | some c =>
    cases h2 : xs[i]? with
    | none => rw [h1, h2] at h; cases h
    | some y =>
      rw [h1, h2] at h
      exact ⟨c, y, by simpa using h1, rfl, (Option.some.inj h).symm⟩
theorem io_zs {o : Bool} {x : Str} {xs : List D} {a : Addr} {fr : List Addr} {md : Md} (h : Wlk Z env1 fp1 fr md) (r1 : R K Z F1 H1 env1 σ1 fp1) (rp : Rep K F1 H1 (.node o .lst xs) (.ref a) fr) (hz : frzL xs = true) (hl : xs.length = x.cps.size) : IOk K Z F1 H1 env1 fp1 (ItZs K x a) (zsD x xs) md where
  go := fun F H env fp σ i d ev r hb hi => by
    obtain ⟨c, xd, hc, hj, rfl⟩ := zsD_get hi
    obtain ⟨a', vs, fq, ea, ha, rl, sb⟩ := (h.rep r1 ev rp).lst r.sub
    cases ea
    obtain ⟨y, fc, e1, e2, e3⟩ := rl.get _ _ _ i xd hj
    obtain rfl : fc = [] := Rep.frz_nil xd y fc (frz_mem hz hj) e2
    refine ⟨⟨vs, c, y, .inl (.inl ha), hc, e1⟩, fun w H' ⟨T, c', y', ey, nT, eH, hc', hy⟩ => ?_⟩
    subst ey eH
    rw [hc] at hc'
    cases hc'
    have q := hy vs (.inl (.inl ha))
    rw [e1] at q
    cases q
    have gr := Grow.updF (o := .tup [.str ⟨#[c]⟩, y]) r.sub nT rfl
    refine ⟨_, [], gr, ?_, fun H0 env0 fp0 => ?_⟩
    · rw [Rep]
      refine ⟨T, .tup [.str ⟨#[c]⟩, y], [.str ⟨#[c]⟩, y], rfl, rfl, upd_same, rfl, ?_⟩
      exact RepL.mk (f1 := []) (f2 := []) (fun a z => nomatch z) (.plain rfl) (RepL.mk (f1 := []) (f2 := []) (fun a z => nomatch z) (e2.grow gr) ⟨rfl, rfl⟩)
    · cases md with
      | own => exact fun b z => nomatch z
      | bor m =>
        cases m with
        | none => exact fun b z => nomatch z
        | some m => exact ⟨.inr (lkD_isLk hb), fun b z => nomatch z⟩
  stop := fun F H env fp σ i ev r hi => by
    unfold zsD at hi
    rw [List.length_zipWith, hl, Array.length_toList, Nat.min_self] at hi
    obtain ⟨a', vs, fq, ea, ha, rl, sb⟩ := (h.rep r1 ev rp).lst r.sub
    cases ea
    exact ⟨vs, .inl (.inl ha), hi, by rw [rl.len]; exact hl⟩
theorem di_zs {elts : List Expr} {kk jc : Nat} {e e2 : Expr} {fa : FA} {p pos p3 p4 tpos : Pos} (hgl : Gl X "zip") (hmg : X.mg "zip" = none) (ha : DA X W ε [k, k2] [e, e2] fa)
    (he : starEach [e, e2] X.env = (false, eval e X.env) :: starEach [e2] X.env := by rfl) (hpl : (backTo pos (starEach [e, e2] X.env)).any (·.1) = false := by rfl) :
    DI X W ε (.Tuple elts kk tpos) (.Call (.Name "zip" p) [e, e2] [⟨some (Str.ofString "strict"), .Constant (.bool true) jc p4, p3⟩] pos) (iZsD k2 fa) := by
  obtain ⟨t1, p1, s1⟩ := ha.ex
  refine ⟨_, pi_zs hgl hmg p1 he hpl, fun Z F H env σ fp Rq r h => s1 Z F H env σ fp _ r (Post.bind h id id fun ds e1 h1 F1 H1 fp1 vs frs ev r1 rep ko => ?_)⟩
  split at h1
  · rename_i x d
    obtain ⟨v, ws, f, fs, rfl, rfl, rp, h3⟩ := rep.inv
    obtain ⟨v2, ws2, f2, fs2, rfl, rfl, rp2, h4⟩ := h3.inv
    obtain ⟨rfl, rfl⟩ := h4.inv0
    obtain ⟨rfl, rfl⟩ := rp
    have ko' := ko.2.2.1
    cases qw : walkD k2 d e1 with
    | none => rw [qw] at h1; exact h1.elim
    | some y =>
      obtain ⟨md, d'⟩ := y
      rw [qw] at h1
      have rh := walk_hold r ev r1 rp2 ko' qw
      obtain ⟨F2, fr2, hF, r2, ev2, rp3, wk⟩ := walk_ok r ev r1 rp2 ko' qw
      split at h1
      · rename_i md' o xs he
        cases he
        by_cases hz : frzL xs = true ∧ xs.length = x.cps.size
        · rw [if_pos hz] at h1
          obtain ⟨a, vs, fq, rfl, ha, rl, sb⟩ := rp3.lst r2.sub
          exact ⟨x, a, vs, rfl, .inl (.inl ha), h1 F2 H1 fp1 (ItZs X.K x a) none ev2 r2 rh trivial fun Z2 env2 fp2 σ2 hB hg r3 => io_zs (wk.of hB hg) r3 rp3 hz.1 hz.2⟩
        · rw [if_neg hz] at h1
          exact h1.elim
      · exact h1.elim
  · exact h1.elim
end
end DL
namespace DL
open PySem PySem.Spec PyProof.Rows L2
def oIntS : List D → Option D
  | [.str a] => if a.length ≤ 640 then (PySem.intText? a).map .int else none
  | _ => none
theorem ok_intS {K : PySem.W.Frag} : OpOk K (fun xs H Q => ∃ a n, xs = [V.str a] ∧ PySem.intText? a = some n ∧ a.length ≤ 640 ∧ Q (.int n) H) oIntS := by
  intro F H ds vs frs d Q hs rep e q
  unfold oIntS at e
  split at e
  · rename_i a
    split at e
    · rename_i hl
      rw [Option.map_eq_some_iff] at e
      obtain ⟨n, hn, rfl⟩ := e
      obtain ⟨v, ws, f, fs, rfl, rfl, h2, h3⟩ := rep.inv
      obtain ⟨rfl, rfl⟩ := h3.inv0
      obtain ⟨rfl, rfl⟩ := h2
      exact ⟨a, n, rfl, hn, hl, q F H _ [] (Grow.refl hs) (.plain rfl) fun a ha => nomatch ha⟩
    · cases e
  · cases e
def isLst : D → Bool
  | .node _ .lst _ => true
  | _ => false
def gIdx : D → List D → Option D
  | .node _ .lst xs, [.str y] => (strsD xs).bind fun ss => if y ∈ ss then some (.int (ss.idxOf y)) else none
  | _, _ => none
def fLm (g : D → List D → Option D) (f : FE) (fa : FA) : FE := fun env => (f env).bind fun d e => if isLst d = true then (fa e).bind fun ds e2 => optR (g d ds) e2 else .stuck
section
variable {X : Cx} {W : WX} {ε1 ε2 : Bool} {k k2 : Kd} {ks : List Kd} {o e : Expr} {f fe : FE} {apos cpos : Pos}
theorem idx_lt {ss : List Str} {y : Str} (h : y ∈ ss) : ss[ss.idxOf y]? = some y := by
  rw [List.getElem?_eq_getElem (List.idxOf_lt_length_of_mem h), List.getElem_idxOf]
theorem idx_none : ∀ {ss : List Str} {y z : Str} {m : Nat}, m < ss.idxOf y → ss[m]? = some z → (z == y) = false
  | [], y, z, m, h, e => by cases e
  | s :: ss, y, z, 0, h, e => by
    cases e
    rw [List.idxOf_cons] at h
    cases q : (s == y) with
    | false => rfl
    | true => rw [q] at h; simp at h
  | s :: ss, y, z, m + 1, h, e => by
    rw [List.idxOf_cons] at h
    cases q : (s == y) with
    | false => rw [q] at h; exact idx_none (by simpa using h) (by simpa using e)
    | true => rw [q] at h; simp at h
theorem esim_idx {td : TE} {ta : TA} {fa : FA} (hd : ESim X.K W ε1 k td f) (ha : ASim X.K W ε2 ks ta fa) (hp : ε2 = true → ∀ j, k ≠ .bor j) : ESim X.K W (ε1 || ε2) .own (tBM X.K "list" (rIndex X.K) td ta) (fLm gIdx f fa) := by
  intro Z F H env σ fp Q r h
  refine hd Z F H env σ fp _ r (Post.bind h orL orLF fun d env1 h1 F1 H1 fp1 v fr e1 r1 rep1 k1' => ?_)
  split at h1
  case isFalse => exact h1.elim
  rename_i hi
  unfold isLst at hi
  split at hi
  case h_2 => cases hi
  rename_i ow xs
  obtain ⟨a, vs, fq, rfl, hav, rl, sb⟩ := rep1.lst r1.sub
  refine ⟨.inl ⟨rfl, vs, .inl (.inl hav)⟩, ?_⟩
  have h1' := Post.seq (a := D.non) e1 h1
  refine ha Z F1 H1 env1 σ fp1 _ r1 (Post.bind (ε := ε2) h1' _root_.id _root_.id fun ds env2 h2 F2 H2 fp2 us frs e2 r2 rep2 c2 => ?_)
  have hk := (KOk.ev e2 rep1 hp k1').1
  unfold gIdx at h2
  split at h2
  · rename_i o2 xs2 y hq
    cases hq
    cases q : strsD xs with
    | none => rw [q] at h2; exact h2.elim
    | some ss =>
      rw [q, Option.bind_some] at h2
      by_cases hm : y ∈ ss
      · rw [if_pos hm] at h2
        obtain ⟨v, ws, f1, fs, rfl, rfl, hv, h3⟩ := rep2.inv
        obtain ⟨rfl, rfl⟩ := h3.inv0
        obtain ⟨rfl, rfl⟩ := hv
        obtain ⟨a', vs2, fq2, ea, hav2, rl2, sb2⟩ := hk.lst r2.sub
        cases ea
        have hvs := strsD_rep q rl2
        subst hvs
        refine ⟨a, ss.map V.str, .str y, ss.idxOf y, .str y, rfl, rfl, .inl (.inl hav2), rfl, ?_, ?_, ?_, fun m z' hlt hz => ?_, ?_⟩
        · rw [List.all_eq_true]
          intro z hz
          obtain ⟨s, _, rfl⟩ := List.mem_map.mp hz
          rfl
        · rw [List.getElem?_map, idx_lt hm]; rfl
        · show (y == y) = true
          exact beq_self_eq_true y
        · rw [List.getElem?_map, Option.map_eq_some_iff] at hz
          obtain ⟨s, hs, rfl⟩ := hz
          show (s == y) = false
          exact idx_none hlt hs
        · exact h2 F2 H2 fp2 _ [] (e1.trans e2) r2 (.plain rfl) fun b z => nomatch z
      · rw [if_neg hm] at h2
        exact h2.elim
  · exact h2.elim
theorem de_idx {fa : FA} (ho : DE X W ε1 k o f) (ha : DA X W ε2 ks [e] fa) (hp : ε2 = true → ∀ j, k ≠ .bor j := by first | exact fun h => (nomatch h) | exact fun _ j h => (nomatch h))
    (hbase : attributeBase o "index" X.env (eval o X.env) = eval o X.env := by rfl)
    (hfew : ((backTo cpos (starEach [e] X.env)).all (fun x => !x.1) && (backToKw cpos (keywordEach [] X.env)).all (fun x => x.1.isSome)
      && decide (([e] : List Expr).length + ([] : List Keyword).length + (if ([] : List Keyword).isEmpty then 0 else 1) < 30)) = true := by rfl)
    (hline : (apos.endLine == cpos.line) = true := by rfl) (hs : starEach [e] X.env = (false, eval e X.env) :: starEach [] X.env := by rfl) :
    DE X W (ε1 || ε2) .own (.Call (.Attribute o "index" apos) [e] [] cpos) (fLm gIdx f fa) := by
  obtain ⟨t1, p1, s1⟩ := ho.ex
  obtain ⟨t2, p2, s2⟩ := ha.ex
  exact ⟨_, pe_bm PySem.F.plainAttrs_list PySem.F.slot_list_index PySem.F.type_list_index mt_index p1 p2 hbase hfew hline hs rfl, esim_idx s1 s2 hp⟩
end
def fTryN (fb : FS) : FS := fun env => match fb env with
  | .exc _ _ _ => .stuck
  | o => o
theorem ds_tryN {X : Cx} {W : WX} {Kc : PySem.W.Frag} {k : Nat} {ms : List Nat} {body : List Stmt} {h₀ : ExceptHandler} {hs : List ExceptHandler} {fb : FS} {pos : Pos} (c : BodyCx Kc k X W)
    (hb : ∀ (W' : WX), BodyCx Kc k X.nox W' → DSs X.nox W' ms body fb) : DS X W ms (.Try body (h₀ :: hs) [] [] pos) (fTryN fb) := by
  obtain ⟨t, P, S⟩ := (hb (fun _ _ _ _ => False) ⟨⟨fun u s' z => (by obtain ⟨_, _, _, _, _, _, _, _, _, _, _, _, _, _, _, _, w⟩ := z; exact w.elim), c.rm⟩, PassesOwn.never⟩).ex
  refine ⟨_, ps_try_thru0 P, fun Z F H env σ fp D_ hm r h => S Z F H env σ fp D_ hm r ?_⟩
  unfold fTryN at h
  cases q : fb env with
  | exc c x e => rw [q] at h; exact h.elim
  | nxt e => rw [q] at h; exact h
  | ret d e => rw [q] at h; exact h
  | brk e => rw [q] at h; exact h
  | cnt e => rw [q] at h; exact h
  | stuck => rw [q] at h; exact h
end DL
namespace DL
open PySem PySem.Spec L2
open PyProof.Rows
section
variable {prog : Program} {w : World} {A : Around} {E : Value → Shared → Prop} {s : Shared}
theorem unpack_starL {t : Addr} {items : Array Value} {i0 : Nat} {Q : List Value → Shared → Prop} (hh : A.handled = none) (ht : s.heap.IsList t items) (hi : i0 ≤ items.size) (hsz : items.size ≤ sizeLine)
    (hQ : ∀ (h1 : Heap) (tk : Nat), (∀ b o, s.heap.get? b = some o → h1.get? b = some o) → Q (items.toList.take i0 ++ [.ref h1.objs.size]) { s with heap := h1.push { cls := .type "list", data := .seq (items.toList.drop i0).toArray }, toks := tk }) :
    wpAny (model prog w) A (unpackItems (.ref t) (i0 + 1) (some i0)) Q E s := by
  have hlt : t ≠ s.heap.objs.size := by obtain ⟨o, ho, _⟩ := ht; exact Nat.ne_of_lt (Heap.lt_size ho)
  unfold unpackItems
  refine wpAny_bind ?_
  unfold notIterableAtAll
  refine wpAny_bind (wpAny_specialOf ht.typeIs PySem.F.slot_list_iter.lookup (wpAny_pure ?_))
  simp only [Bool.false_eq_true, if_false]
  refine wpAny_bind (wpAny_holding (wpAny_pyIter_list ht ?_))
  refine wpAny_bind (wpAny_holding (PySem.W.kun_draw hlt i0 0 _ _ ⟨_, Heap.get?_push_size _ rfl, rfl, rfl⟩ (ht.push _) (by omega) fun h₁ hit₁ hs₁ => ?_))
  rw [List.drop_zero, if_neg (by rw [List.length_take, Array.length_toList]; omega)]
  have ht₁ : h₁.IsList t items := (ht.push _).extBut hs₁.extBut hlt
  rw [Nat.zero_add] at hit₁
  have hI : s.heap.objs.size < h₁.objs.size := by
    obtain ⟨o, e, _⟩ := hit₁
    exact Heap.lt_size e
  have hT : t < h₁.objs.size := by
    obtain ⟨o, e, _⟩ := ht₁
    exact Heap.lt_size e
  refine wpAny_bind (wpAny_holding (PySem.W.kun_collect (s := { s with heap := h₁ }) (T := "list_iterator") (.inr (.inr (.inl rfl))) (Walks.list (A := A.in1) hh s.heap.objs.size t hlt items) (fun j u st => st.1.typeIs) (k := i0) hi ⟨hit₁, ht₁⟩ hI hT (fun h₂ tk hk => ?_) hsz))
  have hn : (items.toList.drop i0).length - (i0 + 1 - 1 - i0) = (items.toList.drop i0).length := by omega
  rw [if_neg (by omega), hn, List.take_length, List.drop_length]
  refine wpAny_bind (wpAny_newList ?_ (by rw [List.length_drop, Array.length_toList]; omega))
  refine wpAny_pure ?_
  rw [List.append_nil]
  exact hQ h₂ tk fun b o e => hk b o (by
    intro z
    rw [z] at e
    exact absurd (Heap.lt_size e) (Nat.lt_irrefl _)) (by
      have hb : b ≠ s.heap.objs.size := Nat.ne_of_lt (Heap.lt_size e)
      exact (hs₁.2 b hb).trans (Heap.get?_push_of_some _ e))
end
section
variable {X : Cx} {es : List Expr} {k : Nat} {pos : Pos}
def gStarV (K : PySem.W.Frag) (n : Nat) (t : TGs) : TG := fun v σ H Q => ∃ a xs, v = .ref a ∧ SqL K H a xs ∧ n ≤ xs.length ∧ ∀ l, H l = none → t (xs.take n ++ [.ref l]) σ (upd H l (.lst (xs.drop n))) Q
theorem pg_starS {ts : TGs} {n : Nat} (hc : X.calm = true) (h : PGs X es ts) (hn : (assignEach es X.env).length = n + 1) (hst : (assignEach es X.env).findIdx? (·.1) = some n) : PG X (.Tuple es k pos) (gStarV X.K n ts) := by
  refine ⟨fun pins s σ H v u Q I r hw => ?_⟩
  obtain ⟨a, xs, e1, hq, hl, hw⟩ := hw
  subst e1
  cases r
  obtain ⟨its, rv, ht, hz⟩ := I.list hq
  have hlen := rv.length
  rw [assign_Tuple]
  refine wpAny_bind (wpAny_standAt ?_)
  unfold unpack
  rw [hn, hst]
  refine wpAny_bind (wpAny_holding (unpack_starL (I.ok.hd hc) ht.isList (by simp; omega) (by simp; omega) fun h1 tk hk => ?_))
  have I1 : L2.Inv X pins σ H { s with heap := h1, toks := tk } := I.kept hk
  have I2 := I1.lnew (t' := tk) (vals_drop rv n) (by rw [List.length_drop]; omega)
  refine h.run pins _ σ _ _ _ Q I2 ?_ (hw _ I1.fresh)
  exact (vals_take rv n).append (.cons rfl .nil)
end
def gStarS (n : Nat) (gs : Md → List D → Evn → Option Evn) : Md → D → Evn → Option Evn := fun md d env => match d with
  | .node _ .lst xs => if n ≤ xs.length ∧ frzL xs = true then gs md (xs.take n ++ [.node false .lst (xs.drop n)]) env else none
  | _ => none
section
variable {X : Cx} {ms : List Nat} {es : List Expr} {tg : Expr} {k : Nat} {pos spos : Pos} {g : Md → D → Evn → Option Evn} {gs : Md → List D → Evn → Option Evn}
theorem gsim_starS {K : PySem.W.Frag} {b : Bool} {n : Nat} {t : TGs} (s : GsSim K b ms t gs) : GSim K b ms (gStarV K n t) (gStarS n gs) := by
  intro Z F0 H0 env0 fp0 F H env σ fp v d fr md Q hm e0 r rep vm ⟨env', hg, hq⟩
  unfold gStarS at hg
  split at hg
  · rename_i o xs
    split at hg
    · rename_i hc
      obtain ⟨a, vs, fq, rfl, ha, rl, sb⟩ := rep.lst r.sub
      have z := RepL.frz_nil _ _ _ hc.2 rl
      subst z
      refine ⟨a, vs, rfl, .inl (.inl ha), by rw [rl.len]; exact hc.1, fun l hl => ?_⟩
      obtain ⟨t1, t2⟩ := RepL.take n rl
      obtain ⟨g, rn⟩ := new_frz (s := .lst) r.sub t2 hl rfl
      have rl2 : RepL K (upd F l (.lst (vs.drop n))) (upd H l (.lst (vs.drop n))) (xs.take n ++ [.node false .lst (xs.drop n)]) (vs.take n ++ [.ref l]) [] := (t1.grow g).app (.one rn) (fun a ha => by cases ha)
      have r1 := r.grow g
      have vm1 : VMo H0 env0 fp0 Z (upd F l (.lst (vs.drop n))) (upd H l (.lst (vs.drop n))) env fp [] md := by
        cases md with
        | own => exact fun b hb => by cases hb
        | bor m =>
          cases m with
          | none => exact fun b hb => by cases hb
          | some j => exact ⟨vm.1, fun b hb => by cases hb⟩
      have back : ∀ b, upd H l (.lst (vs.drop n)) b = none → H b = none := fun b z => by
        cases q : H b with
        | none => rfl
        | some o => rw [g.keep b o q] at z; cases z
      exact s Z F0 H0 env0 fp0 _ _ env σ fp _ _ [] md Q hm ((e0.trans (ε2 := true) g.ev).mono (fun _ => rfl) fun z => by cases z) r1 rl2 vm1 ⟨env', hg, fun σ' F' H' fp' gr ev r' sa kp => hq σ' F' H' fp' (fun hb => g.trans (gr hb)) ev r' ⟨fun b hb => (sa.1 b hb).imp id fun z => .inr (back b (z.resolve_left (by simp))), sa.2⟩
        ⟨fun b o ho hn hf => kp.keep b o (g.keep b o ho) hn (by simp), fun b hb => kp.dom b (g.dom hb), fun b o u ho => g.nofz b o u (kp.nofz b o u ho), fun j hj => ⟨(kp.bor j hj).1, fun b hb o ho => (kp.bor j hj).2 b hb o (g.keep b o ho)⟩, fun b u hb => kp.sub b u (g.sub b u hb), fun b h1 h2 => by
          cases q : upd F l (.lst (vs.drop n)) b with
          | none => exact back b (kp.new b q h2)
          | some u => exact g.new b h1 (by rw [q]; exact fun z => by cases z)⟩⟩
    · cases hg
  · cases hg
theorem dg_starS {n : Nat} {k' : Nat} (hc : X.calm = true) (h : DGs X ms es gs) (hn : (assignEach es X.env).length = n + 1 := by rfl) (hst : (assignEach es X.env).findIdx? (·.1) = some n := by rfl) : DG X ms (.Tuple es k' pos) (gStarS n gs) := by
  obtain ⟨t, p, s⟩ := h.ex
  exact ⟨_, pg_starS hc p hn hst, gsim_starS s⟩
end
end DL
namespace My
open PySem PySem.Spec L2 DL
abbrev ar_is_within_3_ : List Ar := [.arg 0, .arg 1, .arg 2]
abbrev ar__law_draw_2_ : List Ar := [.arg 0, .arg 1]
abbrev ar__law_pick_2_ : List Ar := [.arg 0, .arg 1]
abbrev ar__law_bond_3_ : List Ar := [.arg 0, .arg 1, .arg 2]
abbrev ar__law_points_1_ : List Ar := [.arg 0]
abbrev ar__law_wind_4_ : List Ar := [.arg 0, .arg 1, .arg 2, .arg 3]
abbrev ar__law_names_2_ : List Ar := [.arg 0, .arg 1]
abbrev ar__law_model_1_ : List Ar := [.arg 0]
abbrev ar__law_same_2_ : List Ar := [.arg 0, .arg 1]
abbrev ar_Web_ties_1_ : List Ar := [.arg 0]
abbrev ar_Web_points_1_ : List Ar := [.arg 0]
abbrev ar_Web_moments_1_ : List Ar := [.arg 0]
abbrev ar_Web_spans_1_ : List Ar := [.arg 0]
abbrev ar_is_name_1_ : List Ar := [.arg 0]
abbrev ar_Web___init___2_ : List Ar := [.arg 0]
abbrev ar_Web_turned_1_own : List Ar := [.arg 0, .dfl (.non), .arg 1, .dfl (.non), .dfl (.non)]
abbrev ar_Web_need_new_2_ : List Ar := [.arg 0, .arg 1]
abbrev ar_Web_turned_1_winds : List Ar := [.arg 0, .dfl (.non), .dfl (.non), .arg 1, .dfl (.non)]
abbrev ar_need_late_1_ : List Ar := [.arg 0]
abbrev ar_need_lengths_2_ : List Ar := [.arg 0, .arg 1]
abbrev ar_is_bound_1_ : List Ar := [.arg 0]
abbrev ar_Web_turned_1_bonds : List Ar := [.arg 0, .dfl (.non), .dfl (.non), .dfl (.non), .arg 1]
abbrev ar_Web_need_tie_5_ : List Ar := [.arg 0, .arg 1, .arg 2, .arg 3, .arg 4]
abbrev ar_Web_with_tie_3_least_most : List Ar := [.arg 0, .arg 1, .arg 2, .arg 3, .arg 4]
abbrev ar_Web_with_span_5_late : List Ar := [.arg 0, .arg 1, .arg 2, .arg 3, .arg 4, .arg 5]
abbrev ar_Web_with_moment_2_ : List Ar := [.arg 0, .arg 1]
abbrev ar_Web_turned_1_by : List Ar := [.arg 0, .arg 1, .dfl (.non), .dfl (.non), .dfl (.non)]
abbrev ar_Web_turned_1_own_winds : List Ar := [.arg 0, .dfl (.non), .arg 1, .arg 2, .dfl (.non)]
abbrev ar_Web_without_2_ : List Ar := [.arg 0, .arg 1]
abbrev ar_Web_without_tie_2_ : List Ar := [.arg 0, .arg 1]
abbrev ar_Web_with_by_2_ : List Ar := [.arg 0, .arg 1]
abbrev ar_number_of_1_ : List Ar := [.arg 0]
abbrev ar_name_of_1_ : List Ar := [.arg 0]
abbrev ar_thing_of_2_ : List Ar := [.arg 0, .arg 1]
abbrev ar_applied_2_ : List Ar := [.arg 0, .arg 1]
abbrev ar_read_deed_1_ : List Ar := [.arg 0]
abbrev ar_Web___init___1_ : List Ar := [.dfl (.int 100)]
abbrev ar_shown_1_ : List Ar := [.arg 0]
abbrev ar_write_deed_1_ : List Ar := [.arg 0]
abbrev ar_read_web_1_ : List Ar := [.arg 0]
abbrev ar_write_web_1_ : List Ar := [.arg 0]
abbrev ar_Web___init___1_by : List Ar := [.arg 0]
abbrev ar__law_stands_2_ : List Ar := [.arg 0, .arg 1]
abbrev ar__law_web_deeds_1_ : List Ar := [.arg 0]
abbrev ar__law_deed_line_1_ : List Ar := [.arg 0]
abbrev ar__law_web_1_ : List Ar := [.arg 0]
abbrev ar__law_drawn_6_ : List Ar := [.arg 0, .arg 1, .arg 2, .arg 3, .arg 4, .arg 5]
abbrev ar__law_flow_1_ : List Ar := [.arg 0]
def B_Web___eq__ : FS := (fSeq (fIfS (fNot (fB (fOp (oIsi tab_Web) (aCons (fVar 1) aNil)))) (fRet (fC (.bl false))) fNext)
  (fSeq (fAsg .own (fOp oTup (aCons (fChk (fOp (oFld "Web" "by") (aCons (fVar 0) aNil))) (aCons (fChk (fOp (oFld "Web" "own") (aCons (fVar 0) aNil))) (aCons (fChk (fOp (oFld "Web" "winds") (aCons (fVar 0) aNil))) (aCons (fChk (fOp (oFld "Web" "bonds") (aCons (fVar 0) aNil))) aNil))))) (gNm 2))
  (fRet (fOp oEqF (aCons (fVar 2) (aCons (fOp oTup (aCons (fChk (fOp (oFld "Web" "by") (aCons (fVar 1) aNil))) (aCons (fChk (fOp (oFld "Web" "own") (aCons (fVar 1) aNil))) (aCons (fChk (fOp (oFld "Web" "winds") (aCons (fVar 1) aNil))) (aCons (fChk (fOp (oFld "Web" "bonds") (aCons (fVar 1) aNil))) aNil))))) aNil))))))
def F_Web___eq__ : List D → Fo := runF [false, false] 3 B_Web___eq__
def B_is_within : FS := (fRet (fAndV (fOp (oIsi tab_int) (aCons (fVar 0) aNil)) (fAndV (fNotV (fOp (oIsi tab_bool) (aCons (fVar 0) aNil))) (fChain oLe oLe (fVar 1) (fVar 0) (fVar 2)))))
def F_is_within : List D → Fo := runF [false, false, false] 3 B_is_within
def B_Web___init__ : FS := (fSeq (fIfS (fNot (fB (fCall F_is_within [false, false, false] ar_is_within_3_ [.val (.bor 1), .val .frz, .val .frz] (aCons (fVar 1) (aCons (fC (.int 1)) (aCons (fC (.int 1000)) aNil)))))) fNevS fNext)
  (fSeq (fAsg .frz (fChk (fVar 1)) (gPl 0 (pVar 0) (opSetF "Web" "by") aNil))
  (fSeq (fAsg .own (fOp oLst aNil) (gPl 0 (pVar 0) (opSetF "Web" "own") aNil))
  (fSeq (fAsg .own (fOp oLst aNil) (gPl 0 (pVar 0) (opSetF "Web" "winds") aNil))
  (fAsg .own (fOp oLst aNil) (gPl 0 (pVar 0) (opSetF "Web" "bonds") aNil))))))
def F_Web___init__ : List D → Fo := runF [true, false] 2 B_Web___init__
def E__law_deed_line_1 := (fIf (fB (fOp oIsN (aCons (fVar 1) (aCons (fC .non) aNil)))) (fC (.str "-")) (fOp (o1 gStr) (aCons (fVar 1) aNil)))
def T__law_deed_line_1 := fYes
def G__law_deed_line_1 := (gNm 1)
def B__law_deed_line : FS := (fRet (fSm gJoin (fC (.str " ")) (fLc 2 [1] (iAnyD (.bor 0) (fVar 0)) G__law_deed_line_1 T__law_deed_line_1 E__law_deed_line_1)))
def F__law_deed_line : List D → Fo := runF [false] 2 B__law_deed_line
def B__law_draw : FS := (fSeq (fIfS (fB (fOp oGt (aCons (fOp oItm (aCons (fVar 0) (aCons (fC (.int 2)) aNil))) (aCons (fC (.int 0)) aNil)))) (fSeq (fAsg .own (fOp oMod (aCons (fOp oItm (aCons (fVar 0) (aCons (fC (.int 2)) aNil))) (aCons (fVar 1) aNil))) (gNm 2))
  (fSeq (fAsg .own (fOp oFdiv (aCons (fOp oItm (aCons (fVar 0) (aCons (fC (.int 2)) aNil))) (aCons (fVar 1) aNil))) (gPl 0 (pVar 0) opSetI (aCons (fC (.int 2)) aNil)))
  (fRet (fMv 2)))) fNext)
  (fSeq (fAsg .frz (fC (.int 0)) (gNm 3))
  (fSeq (fIfS (fB (fOp oLt (aCons (fOp oItm (aCons (fVar 0) (aCons (fC (.int 1)) aNil))) (aCons (fOp oLen (aCons (fOp oItm (aCons (fVar 0) (aCons (fC (.int 0)) aNil))) aNil)) aNil)))) (fAsg (.bor 0) (fOp oItm (aCons (fOp oItm (aCons (fVar 0) (aCons (fC (.int 0)) aNil))) (aCons (fOp oItm (aCons (fVar 0) (aCons (fC (.int 1)) aNil))) aNil))) (gNm 3)) fNext)
  (fSeq (fAsg .own (fOp oAdd (aCons (fOp oItm (aCons (fVar 0) (aCons (fC (.int 1)) aNil))) (aCons (fC (.int 1)) aNil))) (gPl 0 (pVar 0) opSetI (aCons (fC (.int 1)) aNil)))
  (fSeq (fIfS (fB (fOp oGe (aCons (fOp (o1 gAbs) (aCons (fVar 3) aNil)) (aCons (fOp oPow (aCons (fC (.int 10)) (aCons (fC (.int 18)) aNil))) aNil)))) (fSeq (fAsg .own (fOp oFdiv (aCons (fOp (o1 gAbs) (aCons (fVar 3) aNil)) (aCons (fVar 1) aNil))) (gPl 0 (pVar 0) opSetI (aCons (fC (.int 2)) aNil)))
  (fRet (fOp oMod (aCons (fOp (o1 gAbs) (aCons (fVar 3) aNil)) (aCons (fVar 1) aNil))))) fNext)
  (fSeq (fAsg .own (fOp oAdd (aCons (fOp oAdd (aCons (fOp oPow (aCons (fOp oItm (aCons (fVar 0) (aCons (fC (.int 3)) aNil))) (aCons (fC (.int 3)) aNil))) (aCons (fOp oMul (aCons (fOp oItm (aCons (fVar 0) (aCons (fC (.int 3)) aNil))) (aCons (fC (.int 31)) aNil))) aNil))) (aCons (fOp oMul (aCons (fOp oItm (aCons (fVar 0) (aCons (fC (.int 1)) aNil))) (aCons (fC (.int 69621)) aNil))) aNil))) (gNm 4))
  (fSeq (fAsg .own (fOp oMod (aCons (fOp oAdd (aCons (fVar 4) (aCons (fOp oMul (aCons (fOp oMod (aCons (fVar 3) (aCons (fC (.int 2147483629)) aNil))) (aCons (fC (.int 48271)) aNil))) aNil))) (aCons (fC (.int 2147483647)) aNil))) (gNm 4))
  (fSeq (fAsg .frz (fChk (fVar 4)) (gPl 0 (pVar 0) opSetI (aCons (fC (.int 3)) aNil)))
  (fRet (fOp oMod (aCons (fOp oAdd (aCons (fOp oFdiv (aCons (fVar 4) (aCons (fC (.int 8192)) aNil))) (aCons (fOp oMul (aCons (fOp oMod (aCons (fVar 4) (aCons (fC (.int 8191)) aNil))) (aCons (fC (.int 40503)) aNil))) aNil))) (aCons (fVar 1) aNil))))))))))))
def F__law_draw : List D → Fo := runF [true, false] 5 B__law_draw
def B__law_pick : FS := (fRet (fChk (fOp oItm (aConsN 1 (fVar 1) (aCons (fCall F__law_draw [true, false] ar__law_draw_2_ [.slot 0, .val .own] (aCons (fSlot 0) (aCons (fOp oLen (aCons (fVar 1) aNil)) aNil))) aNil)))))
def F__law_pick : List D → Fo := runF [true, false] 2 B__law_pick
def B__law_bond : FS := (fSeq (fAsg .own (fOp oList (aCons (fVar 1) aNil)) (gNm 3))
  (fSeq (fAsg .own (fMut 3 (pVar 3) "list" (aCons (fCall F__law_draw [true, false] ar__law_draw_2_ [.slot 0, .val .own] (aCons (fSlot 0) (aCons (fOp oLen (aCons (fVar 3) aNil)) aNil))) aNil) opPopAt) (gNm 4))
  (fSeq (fAsg .own (fCall F__law_pick [true, false] ar__law_pick_2_ [.slot 0, .val (.bor 3)] (aCons (fSlot 0) (aCons (fVar 3) aNil))) (gNm 5))
  (fSeq (fAsg .own (fOp oSub (aCons (fCall F__law_draw [true, false] ar__law_draw_2_ [.slot 0, .val .own] (aCons (fSlot 0) (aCons (fOp oAdd (aCons (fOp oMul (aCons (fC (.int 3)) (aCons (fVar 2) aNil))) (aCons (fC (.int 1)) aNil))) aNil))) (aCons (fVar 2) aNil))) (gNm 6))
  (fSeq (fAsg .own (fOp oAdd (aCons (fChk (fVar 6)) (aCons (fCall F__law_draw [true, false] ar__law_draw_2_ [.slot 0, .val .own] (aCons (fSlot 0) (aCons (fOp oAdd (aCons (fOp oMul (aCons (fC (.int 2)) (aCons (fVar 2) aNil))) (aCons (fC (.int 1)) aNil))) aNil))) aNil))) (gNm 7))
  (fSeq (fAsg .own (fCall F__law_draw [true, false] ar__law_draw_2_ [.slot 0, .val .frz] (aCons (fSlot 0) (aCons (fC (.int 5)) aNil))) (gNm 8))
  (fSeq (fIfS (fB (fOp oEqF (aCons (fVar 8) (aCons (fC (.int 0)) aNil)))) (fRet (fOp oTup (aCons (fFz 4) (aCons (fFz 5) (aCons (fChk (fVar 6)) (aCons (fC .non) aNil)))))) fNext)
  (fSeq (fIfS (fB (fOp oEqF (aCons (fVar 8) (aCons (fC (.int 1)) aNil)))) (fRet (fOp oTup (aCons (fFz 4) (aCons (fFz 5) (aCons (fC .non) (aCons (fChk (fVar 7)) aNil)))))) fNext)
  (fRet (fOp oTup (aCons (fFz 4) (aCons (fFz 5) (aCons (fChk (fVar 6)) (aCons (fChk (fVar 7)) aNil))))))))))))))
def F__law_bond : List D → Fo := runF [true, false, false] 9 B__law_bond
def B__law_model : FS := (fRet (fDic ["by", "own", "winds", "bonds"] (aCons (fChk (fVar 0)) (aCons (fOp oLst aNil) (aCons (fOp oLst aNil) (aCons (fOp oLst aNil) aNil))))))
def F__law_model : List D → Fo := runF [false] 1 B__law_model
def B__law_names : FS := (fSeq (fAsg .own (fOp oLst (aCons (fC (.str "a")) (aCons (fC (.str "bb")) (aCons (fC (.str "c")) (aCons (fC (.str "zzzzzzzz")) (aCons (fC (.str "ab")) (aCons (fC (.str "x")) (aCons (fC (.str "late")) (aCons (fC (.str "by")) (aCons (fC (.str "q")) (aCons (fC (.str "tie")) (aCons (fC (.str "ends")) (aCons (fC (.str "waits")) (aCons (fC (.str "k")) (aCons (fC (.str "ba")) aNil))))))))))))))) (gNm 2))
  (fSeq (fAsg .own (fOp oLst aNil) (gNm 3))
  (fSeq (fForR rng1D (aCons (fVar 1) aNil) (gNm 4) (fExpr (fMut 3 (pVar 3) "list" (aCons (fMut 2 (pVar 2) "list" (aCons (fCall F__law_draw [true, false] ar__law_draw_2_ [.slot 0, .val .own] (aCons (fSlot 0) (aCons (fOp oLen (aCons (fVar 2) aNil)) aNil))) aNil) opPopAt) aNil) opAppend)))
  (fRet (fMv 3)))))
def F__law_names : List D → Fo := runF [true, false] 5 B__law_names
def B__law_points : FS := (fRet (fOp oAdd (aCons (fOp oAdd (aCons (fOp oLst (aCons (fC (.str "start")) aNil)) (aCons (fOp oItm (aCons (fVar 0) (aCons (fC (.str "own")) aNil))) aNil))) (aCons (fLc 2 [1] (iAnyD (.bor 0) (fOp oItm (aCons (fVar 0) (aCons (fC (.str "winds")) aNil)))) (gNm 1) fYes (fChk (fOp oItm (aCons (fVar 1) (aCons (fC (.int 0)) aNil))))) aNil))))
def F__law_points : List D → Fo := runF [false] 2 B__law_points
def B__law_wind : FS := (fSeq (fAsg .own (fOp oAdd (aCons (fC (.int 1)) (aCons (fCall F__law_draw [true, false] ar__law_draw_2_ [.slot 0, .val (.bor 3)] (aCons (fSlot 0) (aCons (fVar 3) aNil))) aNil))) (gNm 4))
  (fSeq (fAsg .own (fOp oAdd (aCons (fChk (fVar 4)) (aCons (fCall F__law_draw [true, false] ar__law_draw_2_ [.slot 0, .val (.bor 3)] (aCons (fSlot 0) (aCons (fVar 3) aNil))) aNil))) (gNm 5))
  (fSeq (fAsg .own (fOp oItm (aCons (fOp oLst (aCons (fC (.int 0)) (aCons (fC (.int 0)) (aCons (fC (.int 0)) (aCons (fOp oAdd (aCons (fC (.int 1)) (aCons (fCall F__law_draw [true, false] ar__law_draw_2_ [.slot 0, .val (.bor 3)] (aCons (fSlot 0) (aCons (fVar 3) aNil))) aNil))) (aCons (fC .non) aNil)))))) (aCons (fCall F__law_draw [true, false] ar__law_draw_2_ [.slot 0, .val .frz] (aCons (fSlot 0) (aCons (fC (.int 5)) aNil))) aNil))) (gNm 6))
  (fRet (fOp oTup (aCons (fChk (fVar 1)) (aCons (fCall F__law_pick [true, false] ar__law_pick_2_ [.slot 0, .val .own] (aCons (fSlot 0) (aCons (fOp oAdd (aCons (fOp oLst (aCons (fC (.str "start")) aNil)) (aCons (fVar 2) aNil))) aNil))) (aCons (fChk (fVar 4)) (aCons (fChk (fVar 5)) (aCons (fChk (fVar 6)) aNil))))))))))
def F__law_wind : List D → Fo := runF [true, false, false, false] 7 B__law_wind
def B__law_drawn : FS := (fSeq (fAsg .own (fCall F__law_model [false] ar__law_model_1_ [.val (.bor 5)] (aCons (fVar 5) aNil)) (gNm 6))
  (fSeq (fAsg .own (fCall F__law_names [true, false] ar__law_names_2_ [.slot 0, .val .own] (aCons (fSlot 0) (aCons (fOp oAdd (aCons (fVar 1) (aCons (fVar 2) aNil))) aNil))) (gNm 7))
  (fSeq (fAsg .own (fSl (fVar 7) (fun env => .ok none env) (fPart (fVar 1))) (gPl 6 (pVar 6) opSetI (aCons (fC (.str "own")) aNil)))
  (fSeq (fForI (iAnyD .own (fSl (fVar 7) (fPart (fVar 1)) (fun env => .ok none env))) (gNm 8) (fExpr (fMut 6 (pIx (pVar 6) (fC (.str "winds"))) "list" (aCons (fCall F__law_wind [true, false, false, false] ar__law_wind_4_ [.slot 0, .val (.bor 8), .val (.bor 6), .val (.bor 4)] (aCons (fSlot 0) (aCons (fVar 8) (aCons (fOp oItm (aCons (fVar 6) (aCons (fC (.str "own")) aNil))) (aCons (fVar 4) aNil))))) aNil) opAppend)))
  (fSeq (fForR rng1D (aCons (fVar 3) aNil) (gNm 9) (fExpr (fMut 6 (pIx (pVar 6) (fC (.str "bonds"))) "list" (aCons (fCall F__law_bond [true, false, false] ar__law_bond_3_ [.slot 0, .val .own, .val (.bor 4)] (aCons (fSlot 0) (aCons (fCall F__law_points [false] ar__law_points_1_ [.val (.bor 6)] (aCons (fVar 6) aNil)) (aCons (fVar 4) aNil)))) aNil) opAppend)))
  (fRet (fMv 6)))))))
def F__law_drawn : List D → Fo := runF [true, false, false, false, false, false] 10 B__law_drawn
def B__law_flow : FS := (fRet (fOp oLst (aCons (fOp oList (aCons (fSl (fVar 0) (fun env => .ok none env) (fPart (fC (.int 63)))) aNil)) (aCons (fC (.int 0)) (aCons (fC (.int 0)) (aCons (fC (.int 11)) aNil))))))
def F__law_flow : List D → Fo := runF [false] 1 B__law_flow
def B__law_same (F__law_same : List D → Fo) : FS := (fSeq (fIfS (fB (fOp (oIsi tab_bool) (aCons (fVar 1) aNil))) (fRet (fAndV (fOp (oIsi tab_bool) (aCons (fVar 0) aNil)) (fOp oEqF (aCons (fVar 0) (aCons (fVar 1) aNil))))) fNext)
  (fSeq (fIfS (fB (fOp oIsN (aCons (fVar 1) (aCons (fC .non) aNil)))) (fRet (fOp oIsN (aCons (fVar 0) (aCons (fC .non) aNil)))) fNext)
  (fSeq (fIfS (fB (fOp (oIsi tab_int) (aCons (fVar 1) aNil))) (fSeq (fIfS (fOr (fB (fOp (oIsi tab_bool) (aCons (fVar 0) aNil))) (fNot (fB (fOp (oIsi tab_int) (aCons (fVar 0) aNil))))) (fRet (fC (.bl false))) fNext)
  (fRet (fOp oEqF (aCons (fVar 0) (aCons (fVar 1) aNil))))) fNext)
  (fSeq (fIfS (fB (fOp (oIsi tab_str) (aCons (fVar 1) aNil))) (fRet (fAndV (fOp (oIsi tab_str) (aCons (fVar 0) aNil)) (fOp oEqF (aCons (fVar 0) (aCons (fVar 1) aNil))))) fNext)
  (fSeq (fIfS (fB (fOp (oIsi tab_dict) (aCons (fVar 1) aNil))) (fSeq (fIfS (fOr (fNot (fB (fOp (oIsi tab_dict) (aCons (fVar 0) aNil)))) (fB (fOp oNeF (aCons (fOp oLen (aCons (fVar 0) aNil)) (aCons (fOp oLen (aCons (fVar 1) aNil)) aNil))))) (fRet (fC (.bl false))) fNext)
  (fSeq (fForI (iAnyD (.bor 1) (fVar 1)) (gNm 2) (fIfS (fOr (fB (fOp oNotInAny (aCons (fVar 2) (aCons (fVar 0) aNil)))) (fNot (fB (fCall F__law_same [false, false] ar__law_same_2_ [.val (.bor 0), .val (.bor 1)] (aCons (fOp oItm (aCons (fVar 0) (aCons (fVar 2) aNil))) (aCons (fOp oItm (aCons (fVar 1) (aCons (fVar 2) aNil))) aNil)))))) (fRet (fC (.bl false))) fNext))
  (fRet (fC (.bl true))))) fNext)
  (fSeq (fIfS (fAnd (fB (fOp (oIsi tab_tuple) (aCons (fVar 1) aNil))) (fNot (fB (fOp (oIsi tab_tuple) (aCons (fVar 0) aNil))))) (fRet (fC (.bl false))) fNext)
  (fSeq (fIfS (fAnd (fB (fOp (oIsi tab_list) (aCons (fVar 1) aNil))) (fNot (fB (fOp (oIsi tab_list) (aCons (fVar 0) aNil))))) (fRet (fC (.bl false))) fNext)
  (fSeq (fIfS (fB (fOp oNeF (aCons (fOp oLen (aCons (fVar 0) aNil)) (aCons (fOp oLen (aCons (fVar 1) aNil)) aNil)))) (fRet (fC (.bl false))) fNext)
  (fRet (fOp oAll (aCons (fLc 4 [3] (iRngD rng1D (aCons (fOp oLen (aCons (fVar 1) aNil)) aNil)) (gNm 3) fYes (fCall F__law_same [false, false] ar__law_same_2_ [.val (.bor 0), .val (.bor 1)] (aCons (fOp oItm (aCons (fVar 0) (aCons (fVar 3) aNil))) (aCons (fOp oItm (aCons (fVar 1) (aCons (fVar 3) aNil))) aNil)))) aNil)))))))))))
def F__law_same_n : Nat → List D → Fo
  | 0 => fun _ => .stuck
  | n + 1 => runF [false, false] 4 (B__law_same (F__law_same_n n))
def F__law_same : List D → Fo := F__law_same_n 8
def B_Web___len__ : FS := (fRet (fOp oLen (aCons (fOp oAdd (aCons (fOp oAdd (aCons (fOp oLst (aCons (fC (.str "start")) aNil)) (aCons (fOp (oFld "Web" "own") (aCons (fVar 0) aNil)) aNil))) (aCons (fOp (oFld "Web" "winds") (aCons (fVar 0) aNil)) aNil))) aNil)))
def F_Web___len__ : List D → Fo := runF [false] 1 B_Web___len__
def B_Web___repr__ : FS := (fRet (fJs [(fC (.str "Web(")), (fFmt (fOp oAdd (aCons (fOp oAdd (aCons (fOp oLen (aCons (fOp (oFld "Web" "own") (aCons (fVar 0) aNil)) aNil)) (aCons (fOp oLen (aCons (fOp (oFld "Web" "winds") (aCons (fVar 0) aNil)) aNil)) aNil))) (aCons (fC (.int 1)) aNil)))), (fC (.str " points, ")), (fFmt (fOp oLen (aCons (fOp (oFld "Web" "bonds") (aCons (fVar 0) aNil)) aNil))), (fC (.str " ties, by ")), (fFmt (fOp (oFld "Web" "by") (aCons (fVar 0) aNil))), (fC (.str ")"))] Str.empty))
def F_Web___repr__ : List D → Fo := runF [false] 1 B_Web___repr__
def B_Web_moments : FS := (fRet (fOp oList (aCons (fOp (oFld "Web" "own") (aCons (fVar 0) aNil)) aNil)))
def F_Web_moments : List D → Fo := runF [false] 1 B_Web_moments
def B_Web_points : FS := (fRet (fOp oAdd (aCons (fOp oAdd (aCons (fOp oLst (aCons (fC (.str "start")) aNil)) (aCons (fOp (oFld "Web" "own") (aCons (fVar 0) aNil)) aNil))) (aCons (fLc 3 [1, 2] (iAnyD (.bor 0) (fOp (oFld "Web" "winds") (aCons (fVar 0) aNil))) (gStarD 1 (gsCons (gNm 1) (gsCons (gNm 2) gsNil))) fYes (fChk (fVar 1))) aNil))))
def F_Web_points : List D → Fo := runF [false] 3 B_Web_points
def B_Web_spans : FS := (fRet (fOp oList (aCons (fOp (oFld "Web" "winds") (aCons (fVar 0) aNil)) aNil)))
def F_Web_spans : List D → Fo := runF [false] 1 B_Web_spans
def B_Web_ties : FS := (fRet (fOp oList (aCons (fOp (oFld "Web" "bonds") (aCons (fVar 0) aNil)) aNil)))
def F_Web_ties : List D → Fo := runF [false] 1 B_Web_ties
def B__law_stands : FS := (fSeq (fAsg .own (fCall F__law_points [false] ar__law_points_1_ [.val (.bor 1)] (aCons (fVar 1) aNil)) (gNm 2))
  (fSeq (fAsg .own (fOp oLst (aCons (fChk (fOp (oFld "Web" "by") (aCons (fVar 0) aNil))) (aCons (fCall F_Web_moments [false] ar_Web_moments_1_ [.val (.bor 0)] (fRcv "Web" "moments" (fVar 0) aNil)) (aCons (fCall F_Web_spans [false] ar_Web_spans_1_ [.val (.bor 0)] (fRcv "Web" "spans" (fVar 0) aNil)) aNil)))) (gNm 3))
  (fSeq (fIfS (fNot (fB (fCall F__law_same [false, false] ar__law_same_2_ [.val (.bor 3), .val .own] (aCons (fVar 3) (aCons (fOp oLst (aCons (fChk (fOp oItm (aCons (fVar 1) (aCons (fC (.str "by")) aNil)))) (aCons (fChk (fOp oItm (aCons (fVar 1) (aCons (fC (.str "own")) aNil)))) (aCons (fChk (fOp oItm (aCons (fVar 1) (aCons (fC (.str "winds")) aNil)))) aNil)))) aNil))))) (fRet (fC (.bl false))) fNext)
  (fSeq (fAsg .own (fOp oLst (aCons (fCall F_Web_ties [false] ar_Web_ties_1_ [.val (.bor 0)] (fRcv "Web" "ties" (fVar 0) aNil)) (aCons (fCall F_Web_points [false] ar_Web_points_1_ [.val (.bor 0)] (fRcv "Web" "points" (fVar 0) aNil)) (aCons (fOp (ownD "Web" F_Web___len__ lenR) (aCons (fVar 0) aNil)) aNil)))) (gNm 3))
  (fSeq (fIfS (fNot (fB (fCall F__law_same [false, false] ar__law_same_2_ [.val .frz, .val .own] (aCons (fFz 3) (aCons (fOp oLst (aCons (fChk (fOp oItm (aCons (fVar 1) (aCons (fC (.str "bonds")) aNil)))) (aCons (fFz 2) (aCons (fOp oLen (aCons (fVar 2) aNil)) aNil)))) aNil))))) (fRet (fC (.bl false))) fNext)
  (fSeq (fAsg .own (fOp oAdd (aCons (fOp oAdd (aCons (fC (.str "Web(")) (aCons (fOp (o1 gStr) (aCons (fOp oLen (aCons (fVar 2) aNil)) aNil)) aNil))) (aCons (fC (.str " points, ")) aNil))) (gNm 4))
  (fSeq (fAsg .own (fOp oAdd (aCons (fOp oAdd (aCons (fOp oAdd (aCons (fOp oAdd (aCons (fVar 4) (aCons (fOp (o1 gStr) (aCons (fOp oLen (aCons (fOp oItm (aCons (fVar 1) (aCons (fC (.str "bonds")) aNil))) aNil)) aNil)) aNil))) (aCons (fC (.str " ties, by ")) aNil))) (aCons (fOp (o1 gStr) (aCons (fOp oItm (aCons (fVar 1) (aCons (fC (.str "by")) aNil))) aNil)) aNil))) (aCons (fC (.str ")")) aNil))) (gNm 4))
  (fRet (fCall F__law_same [false, false] ar__law_same_2_ [.val .own, .val (.bor 4)] (aCons (fOp (ownD "Web" F_Web___repr__ strR) (aCons (fVar 0) aNil)) (aCons (fVar 4) aNil)))))))))))
def F__law_stands : List D → Fo := runF [false, false] 5 B__law_stands
def B_is_name : FS := (fRet (fAndV (fOp (oIsi tab_str) (aCons (fVar 0) aNil)) (fAndV (fChain oLe oLe (fC (.int 1)) (fOp oLen (aCons (fVar 0) aNil)) (fC (.int 8))) (fOp oAll (aCons (fLc 2 [1] (iAnyD (.bor 0) (fVar 0)) (gNm 1) fYes (fOp oInAny (aCons (fVar 1) (aCons (fC (.str "abcdefghijklmnopqrstuvwxyz")) aNil)))) aNil)))))
def F_is_name : List D → Fo := runF [false] 2 B_is_name
def B_Web_need_new : FS := (fSeq (fIfS (fNot (fB (fCall F_is_name [false] ar_is_name_1_ [.val (.bor 1)] (aCons (fVar 1) aNil)))) fNevS fNext)
  (fIfS (fB (fOp oInAny (aCons (fVar 1) (aCons (fCall F_Web_points [false] ar_Web_points_1_ [.val (.bor 0)] (fRcv "Web" "points" (fVar 0) aNil)) aNil)))) fNevS fNext))
def F_Web_need_new : List D → Fo := runF [false, false] 2 B_Web_need_new
def B_Web_turned : FS := (fSeq (fAsg .own (fMk "Web" F_Web___init__ [false] ar_Web___init___2_ [.val .own] (aCons (fIf (fB (fOp oIsN (aCons (fVar 1) (aCons (fC .non) aNil)))) (fChk (fOp (oFld "Web" "by") (aCons (fVar 0) aNil))) (fChk (fVar 1))) aNil)) (gNm 5))
  (fSeq (fAsg .own (fOp oList (aCons (fIf (fB (fOp oIsN (aCons (fVar 2) (aCons (fC .non) aNil)))) (fOp (oFld "Web" "own") (aCons (fVar 0) aNil)) (fVar 2)) aNil)) (gPl 5 (pVar 5) (opSetF "Web" "own") aNil))
  (fSeq (fAsg .own (fOp oList (aCons (fIf (fB (fOp oIsN (aCons (fVar 3) (aCons (fC .non) aNil)))) (fOp (oFld "Web" "winds") (aCons (fVar 0) aNil)) (fVar 3)) aNil)) (gPl 5 (pVar 5) (opSetF "Web" "winds") aNil))
  (fSeq (fAsg .own (fOp oList (aCons (fIf (fB (fOp oIsN (aCons (fVar 4) (aCons (fC .non) aNil)))) (fOp (oFld "Web" "bonds") (aCons (fVar 0) aNil)) (fVar 4)) aNil)) (gPl 5 (pVar 5) (opSetF "Web" "bonds") aNil))
  (fRet (fMv 5))))))
def F_Web_turned : List D → Fo := runF [false, false, false, false, false] 6 B_Web_turned
def B_Web_with_moment : FS := (fSeq (fExpr (fCall F_Web_need_new [false, false] ar_Web_need_new_2_ [.val (.bor 0), .val (.bor 1)] (fRcv "Web" "need_new" (fVar 0) (aCons (fVar 1) aNil))))
  (fSeq (fIfS (fB (fOp oGe (aCons (fOp oLen (aCons (fOp (oFld "Web" "own") (aCons (fVar 0) aNil)) aNil)) (aCons (fC (.int 10)) aNil)))) fNevS fNext)
  (fRet (fCall F_Web_turned [false, false, false, false, false] ar_Web_turned_1_own [.val (.bor 0), .val .own] (fRcv "Web" "turned" (fVar 0) (aCons (fOp oAdd (aCons (fOp (oFld "Web" "own") (aCons (fVar 0) aNil)) (aCons (fOp oLst (aCons (fChk (fVar 1)) aNil)) aNil))) aNil))))))
def F_Web_with_moment : List D → Fo := runF [false, false] 2 B_Web_with_moment
def B_need_late : FS := (fIfS (fAnd (fB (fOp oNotN (aCons (fVar 0) (aCons (fC .non) aNil)))) (fNot (fB (fCall F_is_within [false, false, false] ar_is_within_3_ [.val (.bor 0), .val .frz, .val .frz] (aCons (fVar 0) (aCons (fC (.int 0)) (aCons (fC (.int 1000)) aNil))))))) fNevS fNext)
def F_need_late : List D → Fo := runF [false] 1 B_need_late
def B_need_lengths : FS := (fIfS (fOr (fNot (fB (fCall F_is_within [false, false, false] ar_is_within_3_ [.val (.bor 0), .val .frz, .val .frz] (aCons (fVar 0) (aCons (fC (.int 1)) (aCons (fC (.int 1000)) aNil)))))) (fOr (fNot (fB (fCall F_is_within [false, false, false] ar_is_within_3_ [.val (.bor 1), .val .frz, .val .frz] (aCons (fVar 1) (aCons (fC (.int 1)) (aCons (fC (.int 1000)) aNil)))))) (fB (fOp oGt (aCons (fVar 0) (aCons (fVar 1) aNil)))))) fNevS fNext)
def F_need_lengths : List D → Fo := runF [false, false] 2 B_need_lengths
def B_Web_with_span : FS := (fSeq (fExpr (fCall F_Web_need_new [false, false] ar_Web_need_new_2_ [.val (.bor 0), .val (.bor 1)] (fRcv "Web" "need_new" (fVar 0) (aCons (fVar 1) aNil))))
  (fSeq (fIfS (fAnd (fB (fOp oNeF (aCons (fVar 2) (aCons (fC (.str "start")) aNil)))) (fB (fOp oNotInAny (aCons (fVar 2) (aCons (fOp (oFld "Web" "own") (aCons (fVar 0) aNil)) aNil))))) fNevS fNext)
  (fSeq (fExpr (fCall F_need_lengths [false, false] ar_need_lengths_2_ [.val (.bor 3), .val (.bor 4)] (aCons (fVar 3) (aCons (fVar 4) aNil))))
  (fSeq (fExpr (fCall F_need_late [false] ar_need_late_1_ [.val (.bor 5)] (aCons (fVar 5) aNil)))
  (fSeq (fIfS (fB (fOp oGe (aCons (fOp oLen (aCons (fOp (oFld "Web" "winds") (aCons (fVar 0) aNil)) aNil)) (aCons (fC (.int 4)) aNil)))) fNevS fNext)
  (fRet (fCall F_Web_turned [false, false, false, false, false] ar_Web_turned_1_winds [.val (.bor 0), .val .own] (fRcv "Web" "turned" (fVar 0) (aCons (fOp oAdd (aCons (fOp (oFld "Web" "winds") (aCons (fVar 0) aNil)) (aCons (fOp oLst (aCons (fOp oTup (aCons (fChk (fVar 1)) (aCons (fChk (fVar 2)) (aCons (fChk (fVar 3)) (aCons (fChk (fVar 4)) (aCons (fChk (fVar 5)) aNil)))))) aNil)) aNil))) aNil)))))))))
def F_Web_with_span : List D → Fo := runF [false, false, false, false, false, false] 6 B_Web_with_span
def B_is_bound : FS := (fRet (fOrV (fOp oIsN (aCons (fVar 0) (aCons (fC .non) aNil))) (fCall F_is_within [false, false, false] ar_is_within_3_ [.val (.bor 0), .val .own, .val .frz] (aCons (fVar 0) (aCons (fOp oNeg (aCons (fC (.int 1000)) aNil)) (aCons (fC (.int 1000)) aNil))))))
def F_is_bound : List D → Fo := runF [false] 1 B_is_bound
def B_Web_need_tie : FS := (fSeq (fForI (iAnyD .own (fOp oTup (aCons (fChk (fVar 1)) (aCons (fChk (fVar 2)) aNil)))) (gNm 5) (fIfS (fB (fOp oNotInAny (aCons (fVar 5) (aCons (fCall F_Web_points [false] ar_Web_points_1_ [.val (.bor 0)] (fRcv "Web" "points" (fVar 0) aNil)) aNil)))) fNevS fNext))
  (fSeq (fAsg .own (fAndV (fOp oNeF (aCons (fVar 1) (aCons (fVar 2) aNil))) (fAndV (fCall F_is_bound [false] ar_is_bound_1_ [.val (.bor 3)] (aCons (fVar 3) aNil)) (fCall F_is_bound [false] ar_is_bound_1_ [.val (.bor 4)] (aCons (fVar 4) aNil)))) (gNm 6))
  (fSeq (fIfS (fOr (fNot (fB (fVar 6))) (fAnd (fB (fOp oIsN (aCons (fVar 3) (aCons (fC .non) aNil)))) (fB (fOp oIsN (aCons (fVar 4) (aCons (fC .non) aNil)))))) fNevS fNext)
  (fSeq (fIfS (fAnd (fB (fOp oNotN (aCons (fVar 3) (aCons (fC .non) aNil)))) (fAnd (fB (fOp oNotN (aCons (fVar 4) (aCons (fC .non) aNil)))) (fB (fOp oGt (aCons (fVar 3) (aCons (fVar 4) aNil)))))) fNevS fNext)
  (fIfS (fB (fOp oGe (aCons (fOp oLen (aCons (fOp (oFld "Web" "bonds") (aCons (fVar 0) aNil)) aNil)) (aCons (fC (.int 40)) aNil)))) fNevS fNext)))))
def F_Web_need_tie : List D → Fo := runF [false, false, false, false, false] 7 B_Web_need_tie
def B_Web_with_tie : FS := (fSeq (fExpr (fCall F_Web_need_tie [false, false, false, false, false] ar_Web_need_tie_5_ [.val (.bor 0), .val (.bor 1), .val (.bor 2), .val (.bor 3), .val (.bor 4)] (fRcv "Web" "need_tie" (fVar 0) (aCons (fVar 1) (aCons (fVar 2) (aCons (fVar 3) (aCons (fVar 4) aNil)))))))
  (fRet (fCall F_Web_turned [false, false, false, false, false] ar_Web_turned_1_bonds [.val (.bor 0), .val .own] (fRcv "Web" "turned" (fVar 0) (aCons (fOp oAdd (aCons (fOp (oFld "Web" "bonds") (aCons (fVar 0) aNil)) (aCons (fOp oLst (aCons (fOp oTup (aCons (fChk (fVar 1)) (aCons (fChk (fVar 2)) (aCons (fChk (fVar 3)) (aCons (fChk (fVar 4)) aNil))))) aNil)) aNil))) aNil)))))
def F_Web_with_tie : List D → Fo := runF [false, false, false, false, false] 5 B_Web_with_tie
def B__law_web : FS := (fSeq (fAsg .own (fMk "Web" F_Web___init__ [false] ar_Web___init___2_ [.val (.bor 0)] (aCons (fOp oItm (aCons (fVar 0) (aCons (fC (.str "by")) aNil))) aNil)) (gNm 1))
  (fSeq (fForI (iAnyD (.bor 0) (fOp oItm (aCons (fVar 0) (aCons (fC (.str "own")) aNil)))) (gNm 2) (fAsg .own (fCall F_Web_with_moment [false, false] ar_Web_with_moment_2_ [.val (.bor 1), .val (.bor 2)] (fRcv "Web" "with_moment" (fVar 1) (aCons (fVar 2) aNil))) (gNm 1)))
  (fSeq (fForI (iAnyD (.bor 0) (fOp oItm (aCons (fVar 0) (aCons (fC (.str "winds")) aNil)))) (gTu (gsCons (gNm 3) (gsCons (gNm 4) (gsCons (gNm 5) (gsCons (gNm 6) (gsCons (gNm 7) gsNil)))))) (fAsg .own (fCall F_Web_with_span [false, false, false, false, false, false] ar_Web_with_span_5_late [.val (.bor 1), .val (.bor 3), .val (.bor 4), .val (.bor 5), .val (.bor 6), .val (.bor 7)] (fRcv "Web" "with_span" (fVar 1) (aApp (aCons (fVar 3) (aCons (fVar 4) (aCons (fVar 5) (aCons (fVar 6) aNil)))) (aCons (fVar 7) aNil)))) (gNm 1)))
  (fSeq (fForI (iAnyD (.bor 0) (fOp oItm (aCons (fVar 0) (aCons (fC (.str "bonds")) aNil)))) (gTu (gsCons (gNm 8) (gsCons (gNm 9) (gsCons (gNm 10) (gsCons (gNm 11) gsNil))))) (fAsg .own (fCall F_Web_with_tie [false, false, false, false, false] ar_Web_with_tie_3_least_most [.val (.bor 1), .val (.bor 8), .val (.bor 9), .val (.bor 10), .val (.bor 11)] (fRcv "Web" "with_tie" (fVar 1) (aApp (aCons (fVar 8) (aCons (fVar 9) aNil)) (aCons (fVar 10) (aCons (fVar 11) aNil))))) (gNm 1)))
  (fRet (fMv 1))))))
def F__law_web : List D → Fo := runF [false] 12 B__law_web
def E__law_web_deeds_1 := (fOp oAdd (aCons (fOp oTup (aCons (fC (.str "tie")) aNil)) (aCons (fVar 4) aNil)))
def T__law_web_deeds_1 := fYes
def G__law_web_deeds_1 := (gNm 4)
def E__law_web_deeds_2 := (fOp oAdd (aCons (fOp oTup (aCons (fC (.str "span")) aNil)) (aCons (fVar 3) aNil)))
def T__law_web_deeds_2 := fYes
def G__law_web_deeds_2 := (gNm 3)
def E__law_web_deeds_3 := (fOp oTup (aCons (fC (.str "moment")) (aCons (fChk (fVar 2)) aNil)))
def T__law_web_deeds_3 := fYes
def G__law_web_deeds_3 := (gNm 2)
def B__law_web_deeds : FS := (fSeq (fAsg .own (fOp oAdd (aCons (fOp oLst (aCons (fOp oTup (aCons (fC (.str "by")) (aCons (fChk (fOp oItm (aCons (fVar 0) (aCons (fC (.str "by")) aNil)))) aNil))) aNil)) (aCons (fLc 5 [2] (iAnyD (.bor 0) (fOp oItm (aCons (fVar 0) (aCons (fC (.str "own")) aNil)))) G__law_web_deeds_3 T__law_web_deeds_3 E__law_web_deeds_3) aNil))) (gNm 1))
  (fSeq (fAsg .own (fOp oAdd (aCons (fVar 1) (aCons (fLc 5 [3] (iAnyD (.bor 0) (fOp oItm (aCons (fVar 0) (aCons (fC (.str "winds")) aNil)))) G__law_web_deeds_2 T__law_web_deeds_2 E__law_web_deeds_2) aNil))) (gNm 1))
  (fRet (fOp oAdd (aCons (fVar 1) (aCons (fLc 5 [4] (iAnyD (.bor 0) (fOp oItm (aCons (fVar 0) (aCons (fC (.str "bonds")) aNil)))) G__law_web_deeds_1 T__law_web_deeds_1 E__law_web_deeds_1) aNil))))))
def F__law_web_deeds : List D → Fo := runF [false] 5 B__law_web_deeds
def B_Web_with_by : FS := (fSeq (fIfS (fNot (fB (fCall F_is_within [false, false, false] ar_is_within_3_ [.val (.bor 1), .val .frz, .val .frz] (aCons (fVar 1) (aCons (fC (.int 1)) (aCons (fC (.int 1000)) aNil)))))) fNevS fNext)
  (fRet (fCall F_Web_turned [false, false, false, false, false] ar_Web_turned_1_by [.val (.bor 0), .val (.bor 1)] (fRcv "Web" "turned" (fVar 0) (aCons (fVar 1) aNil)))))
def F_Web_with_by : List D → Fo := runF [false, false] 2 B_Web_with_by
def B_Web_without : FS := (fSeq (fIfS (fOr (fB (fOp oEqF (aCons (fVar 1) (aCons (fC (.str "start")) aNil)))) (fB (fOp oNotInAny (aCons (fVar 1) (aCons (fCall F_Web_points [false] ar_Web_points_1_ [.val (.bor 0)] (fRcv "Web" "points" (fVar 0) aNil)) aNil))))) fNevS fNext)
  (fSeq (fIfS (fB (fOp oInAny (aCons (fVar 1) (aCons (fLc 9 [3, 4, 5] (iAnyD (.bor 0) (fOp (oFld "Web" "winds") (aCons (fVar 0) aNil))) (gStarD 2 (gsCons (gNm 3) (gsCons (gNm 4) (gsCons (gNm 5) gsNil)))) fYes (fChk (fVar 4))) aNil)))) fNevS fNext)
  (fSeq (fIfS (fB (fOp oAny (aCons (fLc 9 [6, 7, 5] (iAnyD (.bor 0) (fOp (oFld "Web" "bonds") (aCons (fVar 0) aNil))) (gStarD 2 (gsCons (gNm 6) (gsCons (gNm 7) (gsCons (gNm 5) gsNil)))) fYes (fOp oInAny (aCons (fVar 1) (aCons (fOp oTup (aCons (fChk (fVar 6)) (aCons (fChk (fVar 7)) aNil))) aNil)))) aNil))) fNevS fNext)
  (fSeq (fAsg .own (fLc 9 [6] (iAnyD (.bor 0) (fOp (oFld "Web" "own") (aCons (fVar 0) aNil))) (gNm 6) (fB (fOp oNeF (aCons (fVar 6) (aCons (fVar 1) aNil)))) (fChk (fVar 6))) (gNm 2))
  (fRet (fCall F_Web_turned [false, false, false, false, false] ar_Web_turned_1_own_winds [.val (.bor 0), .val (.bor 2), .val .own] (fRcv "Web" "turned" (fVar 0) (aCons (fVar 2) (aCons (fLc 9 [8] (iAnyD (.bor 0) (fOp (oFld "Web" "winds") (aCons (fVar 0) aNil))) (gNm 8) (fB (fOp oNeF (aCons (fOp oItm (aCons (fVar 8) (aCons (fC (.int 0)) aNil))) (aCons (fVar 1) aNil)))) (fChk (fVar 8))) aNil)))))))))
def F_Web_without : List D → Fo := runF [false, false] 9 B_Web_without
def B_Web_without_tie : FS := (fSeq (fIfS (fNot (fB (fCall F_is_within [false, false, false] ar_is_within_3_ [.val (.bor 1), .val .frz, .val .own] (aCons (fVar 1) (aCons (fC (.int 0)) (aCons (fOp oSub (aCons (fOp oLen (aCons (fOp (oFld "Web" "bonds") (aCons (fVar 0) aNil)) aNil)) (aCons (fC (.int 1)) aNil))) aNil)))))) fNevS fNext)
  (fRet (fCall F_Web_turned [false, false, false, false, false] ar_Web_turned_1_bonds [.val (.bor 0), .val .own] (fRcv "Web" "turned" (fVar 0) (aCons (fOp oAdd (aCons (fSl (fOp (oFld "Web" "bonds") (aCons (fVar 0) aNil)) (fun env => .ok none env) (fPart (fVar 1))) (aCons (fSl (fOp (oFld "Web" "bonds") (aCons (fVar 0) aNil)) (fPart (fOp oAdd (aCons (fVar 1) (aCons (fC (.int 1)) aNil)))) (fun env => .ok none env)) aNil))) aNil)))))
def F_Web_without_tie : List D → Fo := runF [false, false] 2 B_Web_without_tie
def B_applied : FS := (fSeq (fAsg (.bor 1) (fVar 1) (gStarD 1 (gsCons (gNm 2) (gsCons (gNm 3) gsNil))))
  (fSeq (fIfS (fB (fOp oEqF (aCons (fVar 2) (aCons (fC (.str "by")) aNil)))) (fRet (fCall F_Web_with_by [false, false] ar_Web_with_by_2_ [.val (.bor 0), .val (.bor 3)] (fRcv "Web" "with_by" (fVar 0) (aCons (fOp oItm (aCons (fVar 3) (aCons (fC (.int 0)) aNil))) aNil)))) fNext)
  (fSeq (fIfS (fB (fOp oEqF (aCons (fVar 2) (aCons (fC (.str "moment")) aNil)))) (fRet (fCall F_Web_with_moment [false, false] ar_Web_with_moment_2_ [.val (.bor 0), .val (.bor 3)] (fRcv "Web" "with_moment" (fVar 0) (aCons (fOp oItm (aCons (fVar 3) (aCons (fC (.int 0)) aNil))) aNil)))) fNext)
  (fSeq (fIfS (fB (fOp oEqF (aCons (fVar 2) (aCons (fC (.str "span")) aNil)))) (fRet (fCall F_Web_with_span [false, false, false, false, false, false] ar_Web_with_span_5_late [.val (.bor 0), .val (.bor 3), .val (.bor 3), .val (.bor 3), .val (.bor 3), .val (.bor 3)] (fRcv "Web" "with_span" (fVar 0) (aApp (aCons (fOp oItm (aCons (fVar 3) (aCons (fC (.int 0)) aNil))) (aCons (fOp oItm (aCons (fVar 3) (aCons (fC (.int 1)) aNil))) (aCons (fOp oItm (aCons (fVar 3) (aCons (fC (.int 2)) aNil))) (aCons (fOp oItm (aCons (fVar 3) (aCons (fC (.int 3)) aNil))) aNil)))) (aCons (fOp oItm (aCons (fVar 3) (aCons (fC (.int 4)) aNil))) aNil))))) fNext)
  (fSeq (fIfS (fB (fOp oEqF (aCons (fVar 2) (aCons (fC (.str "tie")) aNil)))) (fRet (fCall F_Web_with_tie [false, false, false, false, false] ar_Web_with_tie_3_least_most [.val (.bor 0), .val (.bor 3), .val (.bor 3), .val (.bor 3), .val (.bor 3)] (fRcv "Web" "with_tie" (fVar 0) (aApp (aCons (fOp oItm (aCons (fVar 3) (aCons (fC (.int 0)) aNil))) (aCons (fOp oItm (aCons (fVar 3) (aCons (fC (.int 1)) aNil))) aNil)) (aCons (fOp oItm (aCons (fVar 3) (aCons (fC (.int 2)) aNil))) (aCons (fOp oItm (aCons (fVar 3) (aCons (fC (.int 3)) aNil))) aNil)))))) fNext)
  (fRet (fIf (fB (fOp oEqF (aCons (fVar 2) (aCons (fC (.str "without")) aNil)))) (fCall F_Web_without [false, false] ar_Web_without_2_ [.val (.bor 0), .val (.bor 3)] (fRcv "Web" "without" (fVar 0) (aCons (fOp oItm (aCons (fVar 3) (aCons (fC (.int 0)) aNil))) aNil))) (fCall F_Web_without_tie [false, false] ar_Web_without_tie_2_ [.val (.bor 0), .val (.bor 3)] (fRcv "Web" "without_tie" (fVar 0) (aCons (fOp oItm (aCons (fVar 3) (aCons (fC (.int 0)) aNil))) aNil))))))))))
def F_applied : List D → Fo := runF [false, false] 4 B_applied
def B_name_of : FS := (fSeq (fIfS (fNot (fB (fCall F_is_name [false] ar_is_name_1_ [.val (.bor 0)] (aCons (fVar 0) aNil)))) fNevS fNext)
  (fRet (fMv 0)))
def F_name_of : List D → Fo := runF [false] 1 B_name_of
def E_number_of_1 := (fOp oInAny (aCons (fVar 2) (aCons (fC (.str "0123456789")) aNil)))
def T_number_of_1 := fYes
def G_number_of_1 := (gNm 2)
def B_number_of : FS := (fSeq (fAsg .own (fIf (fB (fSm gStarts (fVar 0) (fC (.str "-")))) (fSl (fVar 0) (fPart (fC (.int 1))) (fun env => .ok none env)) (fChk (fVar 0))) (gNm 1))
  (fSeq (fIfS (fOr (fNot (fB (fChain oLe oLe (fC (.int 1)) (fOp oLen (aCons (fVar 1) aNil)) (fC (.int 9))))) (fNot (fB (fOp oAll (aCons (fLc 3 [2] (iAnyD (.bor 1) (fVar 1)) G_number_of_1 T_number_of_1 E_number_of_1) aNil))))) fNevS fNext)
  (fSeq (fIfS (fAnd (fB (fOp oEqF (aCons (fOp oItm (aCons (fVar 1) (aCons (fC (.int 0)) aNil))) (aCons (fC (.str "0")) aNil)))) (fB (fOp oNeF (aCons (fVar 0) (aCons (fC (.str "0")) aNil))))) fNevS fNext)
  (fRet (fOp oIntS (aCons (fVar 0) aNil))))))
def F_number_of : List D → Fo := runF [false] 3 B_number_of
def B_thing_of : FS := (fSeq (fIfS (fB (fOp oEqF (aCons (fVar 0) (aCons (fC (.str "w")) aNil)))) (fRet (fCall F_name_of [false] ar_name_of_1_ [.val (.bor 1)] (aCons (fVar 1) aNil))) fNext)
  (fSeq (fIfS (fAnd (fB (fOp oEqF (aCons (fVar 0) (aCons (fC (.str "o")) aNil)))) (fB (fOp oEqF (aCons (fVar 1) (aCons (fC (.str "-")) aNil))))) (fRet (fC .non)) fNext)
  (fRet (fCall F_number_of [false] ar_number_of_1_ [.val (.bor 1)] (aCons (fVar 1) aNil)))))
def F_thing_of : List D → Fo := runF [false, false] 2 B_thing_of
def E_read_deed_1 := (fCall F_thing_of [false, false] ar_thing_of_2_ [.val (.bor 4), .val (.bor 5)] (aCons (fVar 4) (aCons (fVar 5) aNil)))
def T_read_deed_1 := fYes
def G_read_deed_1 := (gTu (gsCons (gNm 4) (gsCons (gNm 5) gsNil)))
def B_read_deed : FS := (fSeq (fAsg .own (fSm gSplit (fVar 0) (fC (.str " "))) (gStarS 1 (gsCons (gNm 1) (gsCons (gNm 2) gsNil))))
  (fSeq (fAsg .own (fOp (oTabGetS gs_FORMS) (aCons (fVar 1) (aCons (fC (.str "")) aNil))) (gNm 3))
  (fSeq (fIfS (fOr (fB (fOp oEqF (aCons (fVar 3) (aCons (fC (.str "")) aNil)))) (fB (fOp oNeF (aCons (fOp oLen (aCons (fVar 3) aNil)) (aCons (fOp oLen (aCons (fVar 2) aNil)) aNil))))) fNevS fNext)
  (fRet (fOp oTuple (aCons (fOp oAdd (aCons (fOp oLst (aCons (fChk (fVar 1)) aNil)) (aCons (fLc 6 [4, 5] (iZsD (.bor 2) (aCons (fVar 3) (aCons (fVar 2) aNil))) G_read_deed_1 T_read_deed_1 E_read_deed_1) aNil))) aNil))))))
def F_read_deed : List D → Fo := runF [false] 6 B_read_deed
def L_read_web_1 : FS := (fSeq (fTryN (fSeq (fAsg .own (fCall F_read_deed [false] ar_read_deed_1_ [.val (.bor 4)] (aCons (fVar 4) aNil)) (gNm 5))
  (fAsg .own (fCall F_applied [false, false] ar_applied_2_ [.val (.bor 1), .val (.bor 5)] (aCons (fVar 1) (aCons (fVar 5) aNil))) (gNm 1))))
  (fSeq (fIfS (fOr (fB (fOp oNotInAny (aCons (fOp oItm (aCons (fVar 5) (aCons (fC (.int 0)) aNil))) (aCons (fVar 2) aNil)))) (fB (fOp oNeF (aCons (fOp oEqF (aCons (fOp oItm (aCons (fVar 5) (aCons (fC (.int 0)) aNil))) (aCons (fC (.str "by")) aNil))) (aCons (fOp oEqF (aCons (fVar 3) (aCons (fC (.int 0)) aNil))) aNil))))) fNevS fNext)
  (fAsg .own (fSl (fVar 2) (fPart (fLm gIdx (fVar 2) (aCons (fOp oItm (aCons (fVar 5) (aCons (fC (.int 0)) aNil))) aNil))) (fun env => .ok none env)) (gNm 2))))
def G_read_web_1 := (gTu (gsCons (gNm 3) (gsCons (gNm 4) gsNil)))
def B_read_web : FS := (fSeq (fAsg .own (fMk "Web" F_Web___init__ [false] ar_Web___init___1_ [] aNil) (gNm 1))
  (fSeq (fAsg .own (fOp oLst (aCons (fC (.str "by")) (aCons (fC (.str "moment")) (aCons (fC (.str "span")) (aCons (fC (.str "tie")) aNil))))) (gNm 2))
  (fSeq (fForI (iEnumD .own (aCons (fSm gSplit (fVar 0) (fC (.str "\n"))) aNil)) G_read_web_1 L_read_web_1)
  (fRet (fMv 1)))))
def F_read_web : List D → Fo := runF [false] 7 B_read_web
def B_shown : FS := (fRet (fIf (fB (fOp oIsN (aCons (fVar 0) (aCons (fC .non) aNil)))) (fC (.str "-")) (fOp (o1 gStr) (aCons (fVar 0) aNil))))
def F_shown : List D → Fo := runF [false] 1 B_shown
def E_write_deed_1 := (fCall F_shown [false] ar_shown_1_ [.val (.bor 1)] (aCons (fVar 1) aNil))
def T_write_deed_1 := fYes
def G_write_deed_1 := (gNm 1)
def B_write_deed : FS := (fRet (fSm gJoin (fC (.str " ")) (fLc 2 [1] (iAnyD (.bor 0) (fVar 0)) G_write_deed_1 T_write_deed_1 E_write_deed_1)))
def F_write_deed : List D → Fo := runF [false] 2 B_write_deed
def E_write_web_1 := (fCall F_write_deed [false] ar_write_deed_1_ [.val (.bor 5)] (aCons (fVar 5) aNil))
def T_write_web_1 := fYes
def G_write_web_1 := (gNm 5)
def E_write_web_2 := (fOp oAdd (aCons (fOp oTup (aCons (fC (.str "tie")) aNil)) (aCons (fVar 4) aNil)))
def T_write_web_2 := fYes
def G_write_web_2 := (gNm 4)
def E_write_web_3 := (fOp oAdd (aCons (fOp oTup (aCons (fC (.str "span")) aNil)) (aCons (fVar 3) aNil)))
def T_write_web_3 := fYes
def G_write_web_3 := (gNm 3)
def E_write_web_4 := (fOp oTup (aCons (fC (.str "moment")) (aCons (fChk (fVar 2)) aNil)))
def T_write_web_4 := fYes
def G_write_web_4 := (gNm 2)
def B_write_web : FS := (fSeq (fAsg .own (fOp oAdd (aCons (fOp oLst (aCons (fOp oTup (aCons (fC (.str "by")) (aCons (fChk (fOp (oFld "Web" "by") (aCons (fVar 0) aNil))) aNil))) aNil)) (aCons (fLc 6 [2] (iAnyD .own (fCall F_Web_moments [false] ar_Web_moments_1_ [.val (.bor 0)] (fRcv "Web" "moments" (fVar 0) aNil))) G_write_web_4 T_write_web_4 E_write_web_4) aNil))) (gNm 1))
  (fSeq (fAsg .own (fOp oAdd (aCons (fOp oAdd (aCons (fVar 1) (aCons (fLc 6 [3] (iAnyD .own (fCall F_Web_spans [false] ar_Web_spans_1_ [.val (.bor 0)] (fRcv "Web" "spans" (fVar 0) aNil))) G_write_web_3 T_write_web_3 E_write_web_3) aNil))) (aCons (fLc 6 [4] (iAnyD .own (fCall F_Web_ties [false] ar_Web_ties_1_ [.val (.bor 0)] (fRcv "Web" "ties" (fVar 0) aNil))) G_write_web_2 T_write_web_2 E_write_web_2) aNil))) (gNm 1))
  (fRet (fSm gJoin (fC (.str "\n")) (fLc 6 [5] (iAnyD (.bor 1) (fVar 1)) G_write_web_1 T_write_web_1 E_write_web_1)))))
def F_write_web : List D → Fo := runF [false] 6 B_write_web
def E_law_1 := (fCall F__law_deed_line [false] ar__law_deed_line_1_ [.val (.bor 9)] (aCons (fVar 9) aNil))
def T_law_1 := fYes
def G_law_1 := (gNm 9)
def B_law : FS := (fSeq (fAsg .own (fCall F__law_flow [false] ar__law_flow_1_ [.val (.bor 0)] (aCons (fVar 0) aNil)) (gNm 1))
  (fSeq (fPar (aCons (fOp oAdd (aCons (fC (.int 1)) (aCons (fCall F__law_draw [true, false] ar__law_draw_2_ [.slot 1, .val .frz] (aCons (fSlot 1) (aCons (fC (.int 10)) aNil))) aNil))) (aCons (fCall F__law_draw [true, false] ar__law_draw_2_ [.slot 1, .val .frz] (aCons (fSlot 1) (aCons (fC (.int 5)) aNil))) aNil)) (gsCons (gNm 2) (gsCons (gNm 3) gsNil)))
  (fSeq (fAsg .own (fCall F__law_pick [true, false] ar__law_pick_2_ [.slot 1, .val .own] (aCons (fSlot 1) (aCons (fOp oLst (aCons (fC (.int 0)) (aCons (fC (.int 3)) (aCons (fC (.int 40)) (aCons (fCall F__law_draw [true, false] ar__law_draw_2_ [.slot 1, .val .frz] (aCons (fSlot 1) (aCons (fC (.int 41)) aNil))) aNil))))) aNil))) (gNm 4))
  (fSeq (fAsg .own (fCall F__law_drawn [true, false, false, false, false, false] ar__law_drawn_6_ [.slot 1, .val .frz, .val .frz, .val .frz, .val .own, .val .own] (aCons (fSlot 1) (aCons (fChk (fVar 2)) (aCons (fChk (fVar 3)) (aCons (fFz 4) (aCons (fOp oAdd (aCons (fC (.int 1)) (aCons (fCall F__law_draw [true, false] ar__law_draw_2_ [.slot 1, .val .frz] (aCons (fSlot 1) (aCons (fC (.int 250)) aNil))) aNil))) (aCons (fOp oAdd (aCons (fC (.int 1)) (aCons (fCall F__law_draw [true, false] ar__law_draw_2_ [.slot 1, .val .frz] (aCons (fSlot 1) (aCons (fC (.int 1000)) aNil))) aNil))) aNil))))))) (gNm 5))
  (fSeq (fAsg .own (fCall F__law_web [false] ar__law_web_1_ [.val (.bor 5)] (aCons (fVar 5) aNil)) (gNm 6))
  (fSeq (fAsg .own (fSm gJoin (fC (.str "\n")) (fLc 10 [9] (iAnyD .own (fCall F__law_web_deeds [false] ar__law_web_deeds_1_ [.val (.bor 5)] (aCons (fVar 5) aNil))) G_law_1 T_law_1 E_law_1)) (gNm 7))
  (fSeq (fIfS (fNot (fB (fCall F__law_same [false, false] ar__law_same_2_ [.val .own, .val (.bor 7)] (aCons (fCall F_write_web [false] ar_write_web_1_ [.val (.bor 6)] (aCons (fVar 6) aNil)) (aCons (fVar 7) aNil))))) (fRet (fC (.bl false))) fNext)
  (fSeq (fAsg .own (fCall F_read_web [false] ar_read_web_1_ [.val (.bor 7)] (aCons (fVar 7) aNil)) (gNm 8))
  (fSeq (fIfS (fOr (fNot (fB (fCall (zF [false, false] F__law_stands) [false, false] ar__law_stands_2_ [.val (.bor 8), .val (.bor 5)] (aCons (fVar 8) (aCons (fVar 5) aNil))))) (fNot (fB (fOp (ownEqD "Web" (zF [false, false] F_Web___eq__)) (aCons (fVar 8) (aCons (fVar 6) aNil)))))) (fRet (fC (.bl false))) fNext)
  (fSeq (fIfS (fOr (fNot (fB (fCall F__law_same [false, false] ar__law_same_2_ [.val .own, .val (.bor 7)] (aCons (fCall F_write_web [false] ar_write_web_1_ [.val (.bor 8)] (aCons (fVar 8) aNil)) (aCons (fVar 7) aNil))))) (fNot (fB (fCall (zF [false, false] F__law_stands) [false, false] ar__law_stands_2_ [.val (.bor 6), .val (.bor 5)] (aCons (fVar 6) (aCons (fVar 5) aNil)))))) (fRet (fC (.bl false))) fNext)
  (fRet (fAndV (fOp oEqF (aCons (fCall F_write_web [false] ar_write_web_1_ [.val .own] (aCons (fMk "Web" F_Web___init__ [false] ar_Web___init___1_by [.val .frz] (aCons (fC (.int 7)) aNil)) aNil)) (aCons (fC (.str "by 7")) aNil))) (fOp (ownEqD "Web" (zF [false, false] F_Web___eq__)) (aCons (fCall F_read_web [false] ar_read_web_1_ [.val .frz] (aCons (fC (.str "by 7")) aNil)) (aCons (fMk "Web" F_Web___init__ [false] ar_Web___init___2_ [.val .frz] (aCons (fC (.int 7)) aNil)) aNil)))))))))))))))
def F_law : List D → Fo := runF [false] 10 B_law
end My
namespace My
open PySem PySem.Spec L2 DL
theorem ob_eq (s : PySem.W.SharedT) : ob s = hkY.obs s.abs := obsY_eq asN fa2 fn [(fun K => He.ga K "FORMS", ["by", "moment", "span", "tie", "without", "untie"])] [] ex (HandSHeadRun.getT_eq s)
theorem runA (w : World) : RunA RR (PySem.W.view RR.prog [59]) 20000 loose w :=
  PySem.W.byRow2 "special-get-raises" (P := fun w => RunA RR (PySem.W.view RR.prog [59]) 20000 loose w) runA_false runA_true w
theorem runB (w : World) : RunB RR hkY ob 20000 w :=
  PySem.W.byRow2 "special-get-raises" (P := fun w => RunB RR hkY ob 20000 w) runB_false runB_true w
theorem run (w : World) : HandSHeadRun.RunEq RR (PySem.W.view RR.prog [59]) hkY ob 20000 loose w := run_two (runA w) (runB w)
end My
namespace My
open PySem PySem.Spec L2 DL
section
variable {P : Program} {w : World} {K : PySem.W.Frag} {mg : Str → Option Value} {base : Heap} {fd_Web___eq__ fd_is_within fd_Web___init__ fd__law_deed_line fd__law_draw fd__law_pick fd__law_bond fd__law_model fd__law_names fd__law_points fd__law_wind fd__law_drawn fd__law_flow fd__law_same fd_Web___len__ fd_Web___repr__ fd_Web_moments fd_Web_points fd_Web_spans fd_Web_ties fd__law_stands fd_is_name fd_Web_need_new fd_Web_turned fd_Web_with_moment fd_need_late fd_need_lengths fd_Web_with_span fd_is_bound fd_Web_need_tie fd_Web_with_tie fd__law_web fd__law_web_deeds fd_Web_with_by fd_Web_without fd_Web_without_tie fd_applied fd_name_of fd_number_of fd_thing_of fd_read_deed fd_read_web fd_shown fd_write_deed fd_write_web fd_law : FuncData}
theorem bt_is_within_3_ (F : FunD K "is_within" "is_within" (defArgs (topS 25)) (defBody (topS 25)) (defScope (topS 25)) [] [] (He.ga K "is_within") fd_is_within) : BOk K fd_is_within ["thing", "low", "high"] 3 [] [.arg 0, .arg 1, .arg 2] := BOk.all (ps := ["thing", "low", "high"]) F fun _ _ _ _ _ _ us hl => match us, hl with | [_, _, _], _ => rfl
theorem bt__law_draw_2_ (F : FunD K "_law_draw" "_law_draw" (defArgs (topS 46)) (defBody (topS 46)) (defScope (topS 46)) [] [] (He.ga K "_law_draw") fd__law_draw) : BOk K fd__law_draw ["_law_flow_here", "_law_size"] 2 [] [.arg 0, .arg 1] := BOk.all (ps := ["_law_flow_here", "_law_size"]) F fun _ _ _ _ _ _ us hl => match us, hl with | [_, _], _ => rfl
theorem bt__law_pick_2_ (F : FunD K "_law_pick" "_law_pick" (defArgs (topS 47)) (defBody (topS 47)) (defScope (topS 47)) [] [] (He.ga K "_law_pick") fd__law_pick) : BOk K fd__law_pick ["_law_flow_here", "_law_row"] 2 [] [.arg 0, .arg 1] := BOk.all (ps := ["_law_flow_here", "_law_row"]) F fun _ _ _ _ _ _ us hl => match us, hl with | [_, _], _ => rfl
theorem bt__law_bond_3_ (F : FunD K "_law_bond" "_law_bond" (defArgs (topS 54)) (defBody (topS 54)) (defScope (topS 54)) [] [] (He.ga K "_law_bond") fd__law_bond) : BOk K fd__law_bond ["_law_flow_here", "_law_points_here", "_law_far"] 3 [] [.arg 0, .arg 1, .arg 2] := BOk.all (ps := ["_law_flow_here", "_law_points_here", "_law_far"]) F fun _ _ _ _ _ _ us hl => match us, hl with | [_, _, _], _ => rfl
theorem bt__law_points_1_ (F : FunD K "_law_points" "_law_points" (defArgs (topS 51)) (defBody (topS 51)) (defScope (topS 51)) [] [] (He.ga K "_law_points") fd__law_points) : BOk K fd__law_points ["_law_m"] 1 [] [.arg 0] := BOk.all (ps := ["_law_m"]) F fun _ _ _ _ _ _ us hl => match us, hl with | [_], _ => rfl
theorem bt__law_wind_4_ (F : FunD K "_law_wind" "_law_wind" (defArgs (topS 53)) (defBody (topS 53)) (defScope (topS 53)) [] [] (He.ga K "_law_wind") fd__law_wind) : BOk K fd__law_wind ["_law_flow_here", "_law_end", "_law_own", "_law_far"] 4 [] [.arg 0, .arg 1, .arg 2, .arg 3] := BOk.all (ps := ["_law_flow_here", "_law_end", "_law_own", "_law_far"]) F fun _ _ _ _ _ _ us hl => match us, hl with | [_, _, _, _], _ => rfl
theorem bt__law_names_2_ (F : FunD K "_law_names" "_law_names" (defArgs (topS 49)) (defBody (topS 49)) (defScope (topS 49)) [] [] (He.ga K "_law_names") fd__law_names) : BOk K fd__law_names ["_law_flow_here", "_law_many"] 2 [] [.arg 0, .arg 1] := BOk.all (ps := ["_law_flow_here", "_law_many"]) F fun _ _ _ _ _ _ us hl => match us, hl with | [_, _], _ => rfl
theorem bt__law_model_1_ (F : FunD K "_law_model" "_law_model" (defArgs (topS 50)) (defBody (topS 50)) (defScope (topS 50)) [] [] (He.ga K "_law_model") fd__law_model) : BOk K fd__law_model ["_law_last"] 1 [] [.arg 0] := BOk.all (ps := ["_law_last"]) F fun _ _ _ _ _ _ us hl => match us, hl with | [_], _ => rfl
theorem bt__law_same_2_ (F : FunD K "_law_same" "_law_same" (defArgs (topS 48)) (defBody (topS 48)) (defScope (topS 48)) [] [] (He.ga K "_law_same") fd__law_same) : BOk K fd__law_same ["_law_found", "_law_due"] 2 [] [.arg 0, .arg 1] := BOk.all (ps := ["_law_found", "_law_due"]) F fun _ _ _ _ _ _ us hl => match us, hl with | [_, _], _ => rfl
theorem bt_Web___repr___1_ (F : FunD K "__repr__" "Web.__repr__" (defArgs (inClass (topS 30) 3)) (defBody (inClass (topS 30) 3)) (defScope (inClass (topS 30) 3)) [] [] (He.ma K (He.ga K "Web") "__repr__") fd_Web___repr__) : BOk K fd_Web___repr__ ["self"] 1 [] [.arg 0] := BOk.all (ps := ["self"]) F fun _ _ _ _ _ _ us hl => match us, hl with | [_], _ => rfl
theorem bt_Web_ties_1_ (F : FunD K "ties" "Web.ties" (defArgs (inClass (topS 30) 7)) (defBody (inClass (topS 30) 7)) (defScope (inClass (topS 30) 7)) [] [] (He.ma K (He.ga K "Web") "ties") fd_Web_ties) : BOk K fd_Web_ties ["self"] 1 [] [.arg 0] := BOk.all (ps := ["self"]) F fun _ _ _ _ _ _ us hl => match us, hl with | [_], _ => rfl
theorem bt_Web_points_1_ (F : FunD K "points" "Web.points" (defArgs (inClass (topS 30) 8)) (defBody (inClass (topS 30) 8)) (defScope (inClass (topS 30) 8)) [] [] (He.ma K (He.ga K "Web") "points") fd_Web_points) : BOk K fd_Web_points ["self"] 1 [] [.arg 0] := BOk.all (ps := ["self"]) F fun _ _ _ _ _ _ us hl => match us, hl with | [_], _ => rfl
theorem bt_Web___len___1_ (F : FunD K "__len__" "Web.__len__" (defArgs (inClass (topS 30) 1)) (defBody (inClass (topS 30) 1)) (defScope (inClass (topS 30) 1)) [] [] (He.ma K (He.ga K "Web") "__len__") fd_Web___len__) : BOk K fd_Web___len__ ["self"] 1 [] [.arg 0] := BOk.all (ps := ["self"]) F fun _ _ _ _ _ _ us hl => match us, hl with | [_], _ => rfl
theorem bt_Web_moments_1_ (F : FunD K "moments" "Web.moments" (defArgs (inClass (topS 30) 5)) (defBody (inClass (topS 30) 5)) (defScope (inClass (topS 30) 5)) [] [] (He.ma K (He.ga K "Web") "moments") fd_Web_moments) : BOk K fd_Web_moments ["self"] 1 [] [.arg 0] := BOk.all (ps := ["self"]) F fun _ _ _ _ _ _ us hl => match us, hl with | [_], _ => rfl
theorem bt_Web_spans_1_ (F : FunD K "spans" "Web.spans" (defArgs (inClass (topS 30) 6)) (defBody (inClass (topS 30) 6)) (defScope (inClass (topS 30) 6)) [] [] (He.ma K (He.ga K "Web") "spans") fd_Web_spans) : BOk K fd_Web_spans ["self"] 1 [] [.arg 0] := BOk.all (ps := ["self"]) F fun _ _ _ _ _ _ us hl => match us, hl with | [_], _ => rfl
theorem bt_is_name_1_ (F : FunD K "is_name" "is_name" (defArgs (topS 26)) (defBody (topS 26)) (defScope (topS 26)) [] [] (He.ga K "is_name") fd_is_name) : BOk K fd_is_name ["thing"] 1 [] [.arg 0] := BOk.all (ps := ["thing"]) F fun _ _ _ _ _ _ us hl => match us, hl with | [_], _ => rfl
theorem bt_Web___init___2_ (F : FunD K "__init__" "Web.__init__" (defArgs (inClass (topS 30) 0)) (defBody (inClass (topS 30) 0)) (defScope (inClass (topS 30) 0)) [.int 100] [] (He.ma K (He.ga K "Web") "__init__") fd_Web___init__) : BOk K fd_Web___init__ ["self", "by"] 2 [] [.arg 0, .arg 1] := BOk.of (ds := []) (F.binds1 (ps := ["self", "by"]) 2 1 (by simp) rfl fun T kV doc pm an cdv ct us its h1 h2 => match us, h1, its, h2 with | [_, _], _, [_], _ => ⟨_, rfl, rfl⟩) rfl (by simp [plainV])
theorem bt_Web_turned_1_own (F : FunD K "turned" "Web.turned" (defArgs (inClass (topS 30) 4)) (defBody (inClass (topS 30) 4)) (defScope (inClass (topS 30) 4)) [] [("by", .non), ("own", .non), ("winds", .non), ("bonds", .non)] (He.ma K (He.ga K "Web") "turned") fd_Web_turned) : BOk K fd_Web_turned ["self", "by", "own", "winds", "bonds"] 1 ["own"] [.arg 0, .dfl (.non), .arg 1, .dfl (.non), .dfl (.non)] := by
  obtain ⟨mv, h⟩ := F.kbinds0 (ps := ["self", "by", "own", "winds", "bonds"]) 1 ["own"] [("by", .non), ("winds", .non), ("bonds", .non)] (fun us mv ws => us ++ ((mv.drop 0).take 1 ++ ((ws.drop 0).take 1 ++ ((mv.drop 1).take 1 ++ (mv.drop 2).take 1)))) (by simp) (by simp) (fun r1 r2 r3 => r1.append ((vals_take (vals_drop r2 0) 1).append ((vals_take (vals_drop r3 0) 1).append ((vals_take (vals_drop r2 1) 1).append (vals_take (vals_drop r2 2) 1))))) (fun D doc pm an cdv ct us mv ws l1 l2 l3 => match us, l1, mv, l2, ws, l3 with | [_], _, [_, _, _], _, [_], _ => ⟨_, _, _, _, _, _, rfl, rfl, ⟨_, _, _, _, _, _, rfl, rfl, ⟨_, _, _, _, _, _, rfl, rfl, rfl⟩⟩⟩)
  exact ⟨_, _, h, fun vs zs h1 h2 => match vs, h1, zs, h2 with | [_], _, [_], _ => rfl⟩
theorem bt_Web_need_new_2_ (F : FunD K "need_new" "Web.need_new" (defArgs (inClass (topS 30) 9)) (defBody (inClass (topS 30) 9)) (defScope (inClass (topS 30) 9)) [] [] (He.ma K (He.ga K "Web") "need_new") fd_Web_need_new) : BOk K fd_Web_need_new ["self", "name"] 2 [] [.arg 0, .arg 1] := BOk.all (ps := ["self", "name"]) F fun _ _ _ _ _ _ us hl => match us, hl with | [_, _], _ => rfl
theorem bt_Web_turned_1_winds (F : FunD K "turned" "Web.turned" (defArgs (inClass (topS 30) 4)) (defBody (inClass (topS 30) 4)) (defScope (inClass (topS 30) 4)) [] [("by", .non), ("own", .non), ("winds", .non), ("bonds", .non)] (He.ma K (He.ga K "Web") "turned") fd_Web_turned) : BOk K fd_Web_turned ["self", "by", "own", "winds", "bonds"] 1 ["winds"] [.arg 0, .dfl (.non), .dfl (.non), .arg 1, .dfl (.non)] := by
  obtain ⟨mv, h⟩ := F.kbinds0 (ps := ["self", "by", "own", "winds", "bonds"]) 1 ["winds"] [("by", .non), ("own", .non), ("bonds", .non)] (fun us mv ws => us ++ ((mv.drop 0).take 1 ++ ((mv.drop 1).take 1 ++ ((ws.drop 0).take 1 ++ (mv.drop 2).take 1)))) (by simp) (by simp) (fun r1 r2 r3 => r1.append ((vals_take (vals_drop r2 0) 1).append ((vals_take (vals_drop r2 1) 1).append ((vals_take (vals_drop r3 0) 1).append (vals_take (vals_drop r2 2) 1))))) (fun D doc pm an cdv ct us mv ws l1 l2 l3 => match us, l1, mv, l2, ws, l3 with | [_], _, [_, _, _], _, [_], _ => ⟨_, _, _, _, _, _, rfl, rfl, ⟨_, _, _, _, _, _, rfl, rfl, ⟨_, _, _, _, _, _, rfl, rfl, rfl⟩⟩⟩)
  exact ⟨_, _, h, fun vs zs h1 h2 => match vs, h1, zs, h2 with | [_], _, [_], _ => rfl⟩
theorem bt_need_late_1_ (F : FunD K "need_late" "need_late" (defArgs (topS 28)) (defBody (topS 28)) (defScope (topS 28)) [] [] (He.ga K "need_late") fd_need_late) : BOk K fd_need_late ["late"] 1 [] [.arg 0] := BOk.all (ps := ["late"]) F fun _ _ _ _ _ _ us hl => match us, hl with | [_], _ => rfl
theorem bt_need_lengths_2_ (F : FunD K "need_lengths" "need_lengths" (defArgs (topS 27)) (defBody (topS 27)) (defScope (topS 27)) [] [] (He.ga K "need_lengths") fd_need_lengths) : BOk K fd_need_lengths ["low", "high"] 2 [] [.arg 0, .arg 1] := BOk.all (ps := ["low", "high"]) F fun _ _ _ _ _ _ us hl => match us, hl with | [_, _], _ => rfl
theorem bt_is_bound_1_ (F : FunD K "is_bound" "is_bound" (defArgs (topS 29)) (defBody (topS 29)) (defScope (topS 29)) [] [] (He.ga K "is_bound") fd_is_bound) : BOk K fd_is_bound ["thing"] 1 [] [.arg 0] := BOk.all (ps := ["thing"]) F fun _ _ _ _ _ _ us hl => match us, hl with | [_], _ => rfl
theorem bt_Web_turned_1_bonds (F : FunD K "turned" "Web.turned" (defArgs (inClass (topS 30) 4)) (defBody (inClass (topS 30) 4)) (defScope (inClass (topS 30) 4)) [] [("by", .non), ("own", .non), ("winds", .non), ("bonds", .non)] (He.ma K (He.ga K "Web") "turned") fd_Web_turned) : BOk K fd_Web_turned ["self", "by", "own", "winds", "bonds"] 1 ["bonds"] [.arg 0, .dfl (.non), .dfl (.non), .dfl (.non), .arg 1] := by
  obtain ⟨mv, h⟩ := F.kbinds0 (ps := ["self", "by", "own", "winds", "bonds"]) 1 ["bonds"] [("by", .non), ("own", .non), ("winds", .non)] (fun us mv ws => us ++ ((mv.drop 0).take 1 ++ ((mv.drop 1).take 1 ++ ((mv.drop 2).take 1 ++ (ws.drop 0).take 1)))) (by simp) (by simp) (fun r1 r2 r3 => r1.append ((vals_take (vals_drop r2 0) 1).append ((vals_take (vals_drop r2 1) 1).append ((vals_take (vals_drop r2 2) 1).append (vals_take (vals_drop r3 0) 1))))) (fun D doc pm an cdv ct us mv ws l1 l2 l3 => match us, l1, mv, l2, ws, l3 with | [_], _, [_, _, _], _, [_], _ => ⟨_, _, _, _, _, _, rfl, rfl, ⟨_, _, _, _, _, _, rfl, rfl, ⟨_, _, _, _, _, _, rfl, rfl, rfl⟩⟩⟩)
  exact ⟨_, _, h, fun vs zs h1 h2 => match vs, h1, zs, h2 with | [_], _, [_], _ => rfl⟩
theorem bt_Web_need_tie_5_ (F : FunD K "need_tie" "Web.need_tie" (defArgs (inClass (topS 30) 13)) (defBody (inClass (topS 30) 13)) (defScope (inClass (topS 30) 13)) [] [] (He.ma K (He.ga K "Web") "need_tie") fd_Web_need_tie) : BOk K fd_Web_need_tie ["self", "one", "other", "least", "most"] 5 [] [.arg 0, .arg 1, .arg 2, .arg 3, .arg 4] := BOk.all (ps := ["self", "one", "other", "least", "most"]) F fun _ _ _ _ _ _ us hl => match us, hl with | [_, _, _, _, _], _ => rfl
theorem bt_Web_with_tie_3_least_most (F : FunD K "with_tie" "Web.with_tie" (defArgs (inClass (topS 30) 14)) (defBody (inClass (topS 30) 14)) (defScope (inClass (topS 30) 14)) [] [("least", .non), ("most", .non)] (He.ma K (He.ga K "Web") "with_tie") fd_Web_with_tie) : BOk K fd_Web_with_tie ["self", "one", "other", "least", "most"] 3 ["least", "most"] [.arg 0, .arg 1, .arg 2, .arg 3, .arg 4] := by
  obtain ⟨mv, h⟩ := F.kbinds0 (ps := ["self", "one", "other", "least", "most"]) 3 ["least", "most"] [] (fun us mv ws => us ++ ((ws.drop 0).take 1 ++ (ws.drop 1).take 1)) (by simp) (by simp) (fun r1 r2 r3 => r1.append ((vals_take (vals_drop r3 0) 1).append (vals_take (vals_drop r3 1) 1))) (fun D doc pm an cdv ct us mv ws l1 l2 l3 => match us, l1, mv, l2, ws, l3 with | [_, _, _], _, [], _, [_, _], _ => rfl)
  exact ⟨_, _, h, fun vs zs h1 h2 => match vs, h1, zs, h2 with | [_, _, _], _, [_, _], _ => rfl⟩
theorem bt_Web_with_span_5_late (F : FunD K "with_span" "Web.with_span" (defArgs (inClass (topS 30) 12)) (defBody (inClass (topS 30) 12)) (defScope (inClass (topS 30) 12)) [] [("late", .int 0)] (He.ma K (He.ga K "Web") "with_span") fd_Web_with_span) : BOk K fd_Web_with_span ["self", "end", "begin", "low", "high", "late"] 5 ["late"] [.arg 0, .arg 1, .arg 2, .arg 3, .arg 4, .arg 5] := by
  obtain ⟨mv, h⟩ := F.kbinds0 (ps := ["self", "end", "begin", "low", "high", "late"]) 5 ["late"] [] (fun us mv ws => us ++ (ws.drop 0).take 1) (by simp) (by simp) (fun r1 r2 r3 => r1.append (vals_take (vals_drop r3 0) 1)) (fun D doc pm an cdv ct us mv ws l1 l2 l3 => match us, l1, mv, l2, ws, l3 with | [_, _, _, _, _], _, [], _, [_], _ => rfl)
  exact ⟨_, _, h, fun vs zs h1 h2 => match vs, h1, zs, h2 with | [_, _, _, _, _], _, [_], _ => rfl⟩
theorem bt_Web_with_moment_2_ (F : FunD K "with_moment" "Web.with_moment" (defArgs (inClass (topS 30) 11)) (defBody (inClass (topS 30) 11)) (defScope (inClass (topS 30) 11)) [] [] (He.ma K (He.ga K "Web") "with_moment") fd_Web_with_moment) : BOk K fd_Web_with_moment ["self", "name"] 2 [] [.arg 0, .arg 1] := BOk.all (ps := ["self", "name"]) F fun _ _ _ _ _ _ us hl => match us, hl with | [_, _], _ => rfl
theorem bt_Web_turned_1_by (F : FunD K "turned" "Web.turned" (defArgs (inClass (topS 30) 4)) (defBody (inClass (topS 30) 4)) (defScope (inClass (topS 30) 4)) [] [("by", .non), ("own", .non), ("winds", .non), ("bonds", .non)] (He.ma K (He.ga K "Web") "turned") fd_Web_turned) : BOk K fd_Web_turned ["self", "by", "own", "winds", "bonds"] 1 ["by"] [.arg 0, .arg 1, .dfl (.non), .dfl (.non), .dfl (.non)] := by
  obtain ⟨mv, h⟩ := F.kbinds0 (ps := ["self", "by", "own", "winds", "bonds"]) 1 ["by"] [("own", .non), ("winds", .non), ("bonds", .non)] (fun us mv ws => us ++ ((ws.drop 0).take 1 ++ ((mv.drop 0).take 1 ++ ((mv.drop 1).take 1 ++ (mv.drop 2).take 1)))) (by simp) (by simp) (fun r1 r2 r3 => r1.append ((vals_take (vals_drop r3 0) 1).append ((vals_take (vals_drop r2 0) 1).append ((vals_take (vals_drop r2 1) 1).append (vals_take (vals_drop r2 2) 1))))) (fun D doc pm an cdv ct us mv ws l1 l2 l3 => match us, l1, mv, l2, ws, l3 with | [_], _, [_, _, _], _, [_], _ => ⟨_, _, _, _, _, _, rfl, rfl, ⟨_, _, _, _, _, _, rfl, rfl, ⟨_, _, _, _, _, _, rfl, rfl, rfl⟩⟩⟩)
  exact ⟨_, _, h, fun vs zs h1 h2 => match vs, h1, zs, h2 with | [_], _, [_], _ => rfl⟩
theorem bt_Web_turned_1_own_winds (F : FunD K "turned" "Web.turned" (defArgs (inClass (topS 30) 4)) (defBody (inClass (topS 30) 4)) (defScope (inClass (topS 30) 4)) [] [("by", .non), ("own", .non), ("winds", .non), ("bonds", .non)] (He.ma K (He.ga K "Web") "turned") fd_Web_turned) : BOk K fd_Web_turned ["self", "by", "own", "winds", "bonds"] 1 ["own", "winds"] [.arg 0, .dfl (.non), .arg 1, .arg 2, .dfl (.non)] := by
  obtain ⟨mv, h⟩ := F.kbinds0 (ps := ["self", "by", "own", "winds", "bonds"]) 1 ["own", "winds"] [("by", .non), ("bonds", .non)] (fun us mv ws => us ++ ((mv.drop 0).take 1 ++ ((ws.drop 0).take 1 ++ ((ws.drop 1).take 1 ++ (mv.drop 1).take 1)))) (by simp) (by simp) (fun r1 r2 r3 => r1.append ((vals_take (vals_drop r2 0) 1).append ((vals_take (vals_drop r3 0) 1).append ((vals_take (vals_drop r3 1) 1).append (vals_take (vals_drop r2 1) 1))))) (fun D doc pm an cdv ct us mv ws l1 l2 l3 => match us, l1, mv, l2, ws, l3 with | [_], _, [_, _], _, [_, _], _ => ⟨_, _, _, _, _, _, rfl, rfl, ⟨_, _, _, _, _, _, rfl, rfl, rfl⟩⟩)
  exact ⟨_, _, h, fun vs zs h1 h2 => match vs, h1, zs, h2 with | [_], _, [_, _], _ => rfl⟩
theorem bt_Web_without_2_ (F : FunD K "without" "Web.without" (defArgs (inClass (topS 30) 15)) (defBody (inClass (topS 30) 15)) (defScope (inClass (topS 30) 15)) [] [] (He.ma K (He.ga K "Web") "without") fd_Web_without) : BOk K fd_Web_without ["self", "name"] 2 [] [.arg 0, .arg 1] := BOk.all (ps := ["self", "name"]) F fun _ _ _ _ _ _ us hl => match us, hl with | [_, _], _ => rfl
theorem bt_Web_without_tie_2_ (F : FunD K "without_tie" "Web.without_tie" (defArgs (inClass (topS 30) 16)) (defBody (inClass (topS 30) 16)) (defScope (inClass (topS 30) 16)) [] [] (He.ma K (He.ga K "Web") "without_tie") fd_Web_without_tie) : BOk K fd_Web_without_tie ["self", "at"] 2 [] [.arg 0, .arg 1] := BOk.all (ps := ["self", "at"]) F fun _ _ _ _ _ _ us hl => match us, hl with | [_, _], _ => rfl
theorem bt_Web_with_by_2_ (F : FunD K "with_by" "Web.with_by" (defArgs (inClass (topS 30) 10)) (defBody (inClass (topS 30) 10)) (defScope (inClass (topS 30) 10)) [] [] (He.ma K (He.ga K "Web") "with_by") fd_Web_with_by) : BOk K fd_Web_with_by ["self", "by"] 2 [] [.arg 0, .arg 1] := BOk.all (ps := ["self", "by"]) F fun _ _ _ _ _ _ us hl => match us, hl with | [_, _], _ => rfl
theorem bt_number_of_1_ (F : FunD K "number_of" "number_of" (defArgs (topS 37)) (defBody (topS 37)) (defScope (topS 37)) [] [] (He.ga K "number_of") fd_number_of) : BOk K fd_number_of ["word"] 1 [] [.arg 0] := BOk.all (ps := ["word"]) F fun _ _ _ _ _ _ us hl => match us, hl with | [_], _ => rfl
theorem bt_name_of_1_ (F : FunD K "name_of" "name_of" (defArgs (topS 38)) (defBody (topS 38)) (defScope (topS 38)) [] [] (He.ga K "name_of") fd_name_of) : BOk K fd_name_of ["word"] 1 [] [.arg 0] := BOk.all (ps := ["word"]) F fun _ _ _ _ _ _ us hl => match us, hl with | [_], _ => rfl
theorem bt_thing_of_2_ (F : FunD K "thing_of" "thing_of" (defArgs (topS 39)) (defBody (topS 39)) (defScope (topS 39)) [] [] (He.ga K "thing_of") fd_thing_of) : BOk K fd_thing_of ["form", "word"] 2 [] [.arg 0, .arg 1] := BOk.all (ps := ["form", "word"]) F fun _ _ _ _ _ _ us hl => match us, hl with | [_, _], _ => rfl
theorem bt_applied_2_ (F : FunD K "applied" "applied" (defArgs (topS 41)) (defBody (topS 41)) (defScope (topS 41)) [] [] (He.ga K "applied") fd_applied) : BOk K fd_applied ["web", "deed"] 2 [] [.arg 0, .arg 1] := BOk.all (ps := ["web", "deed"]) F fun _ _ _ _ _ _ us hl => match us, hl with | [_, _], _ => rfl
theorem bt_read_deed_1_ (F : FunD K "read_deed" "read_deed" (defArgs (topS 40)) (defBody (topS 40)) (defScope (topS 40)) [] [] (He.ga K "read_deed") fd_read_deed) : BOk K fd_read_deed ["line"] 1 [] [.arg 0] := BOk.all (ps := ["line"]) F fun _ _ _ _ _ _ us hl => match us, hl with | [_], _ => rfl
theorem bt_Web___init___1_ (F : FunD K "__init__" "Web.__init__" (defArgs (inClass (topS 30) 0)) (defBody (inClass (topS 30) 0)) (defScope (inClass (topS 30) 0)) [.int 100] [] (He.ma K (He.ga K "Web") "__init__") fd_Web___init__) : BOk K fd_Web___init__ ["self", "by"] 1 [] [.arg 0, .dfl (.int 100)] := BOk.of (ds := [.int 100]) (F.binds1 (ps := ["self", "by"]) 1 0 (by simp) rfl fun T kV doc pm an cdv ct us its h1 h2 => match us, h1, its, h2 with | [_], _, [_], _ => ⟨_, rfl, rfl⟩) rfl (by simp [plainV])
theorem bt_shown_1_ (F : FunD K "shown" "shown" (defArgs (topS 35)) (defBody (topS 35)) (defScope (topS 35)) [] [] (He.ga K "shown") fd_shown) : BOk K fd_shown ["thing"] 1 [] [.arg 0] := BOk.all (ps := ["thing"]) F fun _ _ _ _ _ _ us hl => match us, hl with | [_], _ => rfl
theorem bt_write_deed_1_ (F : FunD K "write_deed" "write_deed" (defArgs (topS 36)) (defBody (topS 36)) (defScope (topS 36)) [] [] (He.ga K "write_deed") fd_write_deed) : BOk K fd_write_deed ["deed"] 1 [] [.arg 0] := BOk.all (ps := ["deed"]) F fun _ _ _ _ _ _ us hl => match us, hl with | [_], _ => rfl
theorem bt_Web___eq___2_ (F : FunD K "__eq__" "Web.__eq__" (defArgs (inClass (topS 30) 2)) (defBody (inClass (topS 30) 2)) (defScope (inClass (topS 30) 2)) [] [] (He.ma K (He.ga K "Web") "__eq__") fd_Web___eq__) : BOk K fd_Web___eq__ ["self", "other"] 2 [] [.arg 0, .arg 1] := BOk.all (ps := ["self", "other"]) F fun _ _ _ _ _ _ us hl => match us, hl with | [_, _], _ => rfl
theorem bt_read_web_1_ (F : FunD K "read_web" "read_web" (defArgs (topS 43)) (defBody (topS 43)) (defScope (topS 43)) [] [] (He.ga K "read_web") fd_read_web) : BOk K fd_read_web ["text"] 1 [] [.arg 0] := BOk.all (ps := ["text"]) F fun _ _ _ _ _ _ us hl => match us, hl with | [_], _ => rfl
theorem bt_write_web_1_ (F : FunD K "write_web" "write_web" (defArgs (topS 42)) (defBody (topS 42)) (defScope (topS 42)) [] [] (He.ga K "write_web") fd_write_web) : BOk K fd_write_web ["web"] 1 [] [.arg 0] := BOk.all (ps := ["web"]) F fun _ _ _ _ _ _ us hl => match us, hl with | [_], _ => rfl
theorem bt_Web___init___1_by (F : FunD K "__init__" "Web.__init__" (defArgs (inClass (topS 30) 0)) (defBody (inClass (topS 30) 0)) (defScope (inClass (topS 30) 0)) [.int 100] [] (He.ma K (He.ga K "Web") "__init__") fd_Web___init__) : BOk K fd_Web___init__ ["self", "by"] 1 ["by"] [.arg 0, .arg 1] := by
  obtain ⟨its, h⟩ := F.kbindsD (ps := ["self", "by"]) 1 ["by"] (fun us ds ws => us ++ (ws.drop 0).take 1) (by simp) (fun r1 r2 r3 => r1.append (vals_take (vals_drop r3 0) 1)) (fun T kV doc pm an cdv ct us its ws l1 l2 l3 => match us, l1, its, l2, ws, l3 with | [_], _, [_], _, [_], _ => ⟨_, rfl, rfl⟩)
  exact ⟨_, _, h, fun vs zs h1 h2 => match vs, h1, zs, h2 with | [_], _, [_], _ => rfl⟩
theorem bt__law_stands_2_ (F : FunD K "_law_stands" "_law_stands" (defArgs (topS 56)) (defBody (topS 56)) (defScope (topS 56)) [] [] (He.ga K "_law_stands") fd__law_stands) : BOk K fd__law_stands ["_law_web_here", "_law_m"] 2 [] [.arg 0, .arg 1] := BOk.all (ps := ["_law_web_here", "_law_m"]) F fun _ _ _ _ _ _ us hl => match us, hl with | [_, _], _ => rfl
theorem bt__law_web_deeds_1_ (F : FunD K "_law_web_deeds" "_law_web_deeds" (defArgs (topS 58)) (defBody (topS 58)) (defScope (topS 58)) [] [] (He.ga K "_law_web_deeds") fd__law_web_deeds) : BOk K fd__law_web_deeds ["_law_m"] 1 [] [.arg 0] := BOk.all (ps := ["_law_m"]) F fun _ _ _ _ _ _ us hl => match us, hl with | [_], _ => rfl
theorem bt__law_deed_line_1_ (F : FunD K "_law_deed_line" "_law_deed_line" (defArgs (topS 57)) (defBody (topS 57)) (defScope (topS 57)) [] [] (He.ga K "_law_deed_line") fd__law_deed_line) : BOk K fd__law_deed_line ["_law_deed"] 1 [] [.arg 0] := BOk.all (ps := ["_law_deed"]) F fun _ _ _ _ _ _ us hl => match us, hl with | [_], _ => rfl
theorem bt__law_web_1_ (F : FunD K "_law_web" "_law_web" (defArgs (topS 52)) (defBody (topS 52)) (defScope (topS 52)) [] [] (He.ga K "_law_web") fd__law_web) : BOk K fd__law_web ["_law_m"] 1 [] [.arg 0] := BOk.all (ps := ["_law_m"]) F fun _ _ _ _ _ _ us hl => match us, hl with | [_], _ => rfl
theorem bt__law_drawn_6_ (F : FunD K "_law_drawn" "_law_drawn" (defArgs (topS 55)) (defBody (topS 55)) (defScope (topS 55)) [] [] (He.ga K "_law_drawn") fd__law_drawn) : BOk K fd__law_drawn ["_law_flow_here", "_law_own", "_law_winds", "_law_bonds", "_law_far", "_law_last"] 6 [] [.arg 0, .arg 1, .arg 2, .arg 3, .arg 4, .arg 5] := BOk.all (ps := ["_law_flow_here", "_law_own", "_law_winds", "_law_bonds", "_law_far", "_law_last"]) F fun _ _ _ _ _ _ us hl => match us, hl with | [_, _, _, _, _, _], _ => rfl
theorem bt__law_flow_1_ (F : FunD K "_law_flow" "_law_flow" (defArgs (topS 45)) (defBody (topS 45)) (defScope (topS 45)) [] [] (He.ga K "_law_flow") fd__law_flow) : BOk K fd__law_flow ["_law_script"] 1 [] [.arg 0] := BOk.all (ps := ["_law_script"]) F fun _ _ _ _ _ _ us hl => match us, hl with | [_], _ => rfl
theorem t_Web___eq__ (fc : FC fa K mg) (h_tab_Web : isiB K (.ref (He.ga K "Web")) tab_Web = true) (F : FunD K "__eq__" "Web.__eq__" (defArgs (inClass (topS 30) 2)) (defBody (inClass (topS 30) 2)) (defScope (inClass (topS 30) 2)) [] [] (He.ma K (He.ga K "Web") "__eq__") fd_Web___eq__) : FnOk P w K mg base (L2.CX P w) 1 (He.ma K (He.ga K "Web") "__eq__") fd_Web___eq__ ["self", "other"] (spD K [false, false] F_Web___eq__) :=
  def_ok (N := ["self", "other", "mine"]) F (C8.fnScope_by (by decide)) rfl fun cdv A outer s H E W c => by
      have cx := c.toCCx
      have hN : List.Nodup (["self", "other", "mine"] : List Str) := by decide
      exact (dss_cons (ds_if (dt_not (dt_val (de_isiC "Web" tab_Web (fc.fr' 5) (fc.gl' 6) (de_var 1) h_tab_Web))) (dss_one (ds_ret (de_own de_bl))) dss_nil)
  (dss_cons (ds_set 2 hN (de_tup (da_cons (de_chk (de_fld "Web" (fc.f 0) (fc.f 1) (de_var 0))) (da_cons (de_chk (de_fld "Web" (fc.f 0) (fc.f 2) (de_var 0))) (da_cons (de_chk (de_fld "Web" (fc.f 0) (fc.f 3) (de_var 0))) (da_cons (de_chk (de_fld "Web" (fc.f 0) (fc.f 4) (de_var 0))) da_nil))))))
  (dss_one (ds_ret (de_cmp (op_eqF (unitsE cx)) ok_eqF (de_var 2) (de_tup (da_cons (de_chk (de_fld "Web" (fc.f 0) (fc.f 1) (de_var 1))) (da_cons (de_chk (de_fld "Web" (fc.f 0) (fc.f 2) (de_var 1))) (da_cons (de_chk (de_fld "Web" (fc.f 0) (fc.f 3) (de_var 1))) (da_cons (de_chk (de_fld "Web" (fc.f 0) (fc.f 4) (de_var 1))) da_nil))))))))))
theorem t_is_within (fc : FC fa K mg) (h_tab_bool : isiB K (.type "bool") tab_bool = true) (h_tab_int : isiB K (.type "int") tab_int = true) (F : FunD K "is_within" "is_within" (defArgs (topS 25)) (defBody (topS 25)) (defScope (topS 25)) [] [] (He.ga K "is_within") fd_is_within) : FnOk P w K mg base (L2.CX P w) 1 (He.ga K "is_within") fd_is_within ["thing", "low", "high"] (spD K [false, false, false] F_is_within) :=
  def_ok (N := ["thing", "low", "high"]) F (C8.fnScope_by (by decide)) rfl fun cdv A outer s H E W c => by
      have cx := c.toCCx
      have hN : List.Nodup (["thing", "low", "high"] : List Str) := by decide
      exact (dss_one (ds_ret (de_and (de_isiB "int" tab_int (fc.fr' 5) (fc.fr' 8) (de_var 0) h_tab_int) (de_and (de_not (de_isiB "bool" tab_bool (fc.fr' 5) (fc.fr' 7) (de_var 0) h_tab_bool)) (de_bool1 (de_chain op_le op_le ok_le ok_le (de_var 1) (de_var 0) (de_var 2)))))))
theorem t_Web___init__ (fc : FC fa K mg) (F : FunD K "__init__" "Web.__init__" (defArgs (inClass (topS 30) 0)) (defBody (inClass (topS 30) 0)) (defScope (inClass (topS 30) 0)) [.int 100] [] (He.ma K (He.ga K "Web") "__init__") fd_Web___init__) (d_is_within : FnOk P w K mg base (L2.CX P w) 1 (He.ga K "is_within") fd_is_within ["thing", "low", "high"] (spD K [false, false, false] F_is_within)) (kp_is_within : PySem.W.keepIn K (.ref (He.ga K "is_within")) = true) (b_is_within_3_ : BOk K fd_is_within ["thing", "low", "high"] 3 [] [.arg 0, .arg 1, .arg 2]) : FnOk P w K mg base (L2.CX P w) 2 (He.ma K (He.ga K "Web") "__init__") fd_Web___init__ ["self", "by"] (spD K [true, false] F_Web___init__) :=
  def_ok (N := ["self", "by"]) F (C8.fnScope_by (by decide)) rfl fun cdv A outer s H E W c => by
      have cx := c.toCCx
      have hN : List.Nodup (["self", "by"] : List Str) := by decide
      exact (dss_cons (ds_if (dt_not (dt_val (dc cx d_is_within (fc.gl' 10) kp_is_within b_is_within_3_ (dall_pos (dg_val (de_var 1) (dg_val de_int (dg_val (de_gint (fc.int' 9)) dg_nil))))))) (dss_one ds_never) dss_nil)
  (dss_cons (ds_asg (de_chk (de_var 1)) (dg_fld "Web" (pl_var 0) (fc.f 0) (fc.f 1)))
  (dss_cons (ds_asg (de_lst da_nil) (dg_fld "Web" (pl_var 0) (fc.f 0) (fc.f 2)))
  (dss_cons (ds_asg (de_lst da_nil) (dg_fld "Web" (pl_var 0) (fc.f 0) (fc.f 3)))
  (dss_one (ds_asg (de_lst da_nil) (dg_fld "Web" (pl_var 0) (fc.f 0) (fc.f 4))))))))
theorem t__law_deed_line (fc : FC fa K mg) (F : FunD K "_law_deed_line" "_law_deed_line" (defArgs (topS 57)) (defBody (topS 57)) (defScope (topS 57)) [] [] (He.ga K "_law_deed_line") fd__law_deed_line) : FnOk P w K mg base (L2.CX P w) 1 (He.ga K "_law_deed_line") fd__law_deed_line ["_law_deed"] (spD K [false] F__law_deed_line) :=
  def_ok (N := ["_law_deed", "_law_one"]) F (C8.fnScope_by (by decide)) rfl fun cdv A outer s H E W c => by
      have cx := c.toCCx
      have hN : List.Nodup (["_law_deed", "_law_one"] : List Str) := by decide
      exact (dss_one (ds_ret (de_join de_str (de_lc 2 [1] [("_law_one", 1)] rfl hN (di_any (de_var 0)) (fun s2 H2 C2 cl2 fp2 => (dg_name 1 hN)) (fun s2 H2 C2 cl2 fp2 => dts_nil) (fun s2 H2 C2 cl2 fp2 => (de_ifExp (dt_cmp op_isN ok_isN (de_var 1) de_non) (de_own de_str) (de_callTy cr_str ok_str (fc.fr' 11) (da_cons (de_var 1) da_nil))))))))
theorem t__law_draw (fc : FC fa K mg) (F : FunD K "_law_draw" "_law_draw" (defArgs (topS 46)) (defBody (topS 46)) (defScope (topS 46)) [] [] (He.ga K "_law_draw") fd__law_draw) : FnOk P w K mg base (L2.CX P w) 1 (He.ga K "_law_draw") fd__law_draw ["_law_flow_here", "_law_size"] (spD K [true, false] F__law_draw) :=
  def_ok (N := ["_law_flow_here", "_law_size", "_law_found", "_law_cell", "_law_here"]) F (C8.fnScope_by (by decide)) rfl fun cdv A outer s H E W c => by
      have cx := c.toCCx
      have hN : List.Nodup (["_law_flow_here", "_law_size", "_law_found", "_law_cell", "_law_here"] : List Str) := by decide
      exact (dss_cons (ds_if (dt_cmp op_gt ok_gt (de_sub (units1 cx) (de_var 0) de_int) de_int) (dss_cons (ds_set 2 hN (de_bin op_mod ok_mod (de_sub (units1 cx) (de_var 0) de_int) (de_var 1)))
  (dss_cons (ds_asg (de_bin op_fdivW ok_fdiv (de_sub (units1 cx) (de_var 0) de_int) (de_var 1)) (dg_sub (W := W) (units1 cx) (pl_var 0) de_int))
  (dss_one (ds_ret (de_mv 2))))) dss_nil)
  (dss_cons (ds_set 3 hN de_int)
  (dss_cons (ds_if (dt_cmp op_lt ok_lt (de_sub (units1 cx) (de_var 0) de_int) (de_callB cr_len ok_len (fc.fr' 13) (da_cons (de_sub (units1 cx) (de_var 0) de_int) da_nil))) (dss_one (ds_set 3 hN (de_sub (units1 cx) (de_sub (units1 cx) (de_var 0) de_int) (de_sub (units1 cx) (de_var 0) de_int)))) dss_nil)
  (dss_cons (ds_asg (de_bin op_add4 ok_add (de_sub (units1 cx) (de_var 0) de_int) de_int) (dg_sub (W := W) (units1 cx) (pl_var 0) de_int))
  (dss_cons (ds_if (dt_cmp op_ge ok_ge (de_callB cr_abs ok_abs (fc.fr' 12) (da_cons (de_var 3) da_nil)) (de_bin op_pow ok_pow de_int de_int)) (dss_cons (ds_asg (de_bin op_fdivW ok_fdiv (de_callB cr_abs ok_abs (fc.fr' 12) (da_cons (de_var 3) da_nil)) (de_var 1)) (dg_sub (W := W) (units1 cx) (pl_var 0) de_int))
  (dss_one (ds_ret (de_bin op_mod ok_mod (de_callB cr_abs ok_abs (fc.fr' 12) (da_cons (de_var 3) da_nil)) (de_var 1))))) dss_nil)
  (dss_cons (ds_set 4 hN (de_bin op_add4 ok_add (de_bin op_add4 ok_add (de_bin op_pow ok_pow (de_sub (units1 cx) (de_var 0) de_int) de_int) (de_bin op_mul ok_mul (de_sub (units1 cx) (de_var 0) de_int) de_int)) (de_bin op_mul ok_mul (de_sub (units1 cx) (de_var 0) de_int) de_int)))
  (dss_cons (ds_set 4 hN (de_bin op_mod ok_mod (de_bin op_add4 ok_add (de_var 4) (de_bin op_mul ok_mul (de_bin op_mod ok_mod (de_var 3) de_int) de_int)) de_int))
  (dss_cons (ds_asg (de_chk (de_var 4)) (dg_sub (W := W) (units1 cx) (pl_var 0) de_int))
  (dss_one (ds_ret (de_bin op_mod ok_mod (de_bin op_add4 ok_add (de_bin op_fdivW ok_fdiv (de_var 4) de_int) (de_bin op_mul ok_mul (de_bin op_mod ok_mod (de_var 4) de_int) de_int)) (de_var 1))))))))))))
theorem t__law_pick (fc : FC fa K mg) (F : FunD K "_law_pick" "_law_pick" (defArgs (topS 47)) (defBody (topS 47)) (defScope (topS 47)) [] [] (He.ga K "_law_pick") fd__law_pick) (d__law_draw : FnOk P w K mg base (L2.CX P w) 1 (He.ga K "_law_draw") fd__law_draw ["_law_flow_here", "_law_size"] (spD K [true, false] F__law_draw)) (kp__law_draw : PySem.W.keepIn K (.ref (He.ga K "_law_draw")) = true) (b__law_draw_2_ : BOk K fd__law_draw ["_law_flow_here", "_law_size"] 2 [] [.arg 0, .arg 1]) : FnOk P w K mg base (L2.CX P w) 2 (He.ga K "_law_pick") fd__law_pick ["_law_flow_here", "_law_row"] (spD K [true, false] F__law_pick) :=
  def_ok (N := ["_law_flow_here", "_law_row"]) F (C8.fnScope_by (by decide)) rfl fun cdv A outer s H E W c => by
      have cx := c.toCCx
      have hN : List.Nodup (["_law_flow_here", "_law_row"] : List Str) := by decide
      exact (dss_one (ds_ret (de_own (de_subN (units1 cx) (de_var 1) (dc cx d__law_draw (fc.gl' 14) kp__law_draw b__law_draw_2_ (dall_pos (dg_slot 0 (dg_val (de_callB cr_len ok_len (fc.fr' 13) (da_cons (de_var 1) da_nil)) dg_nil))))))))
theorem t__law_bond (fc : FC fa K mg) (F : FunD K "_law_bond" "_law_bond" (defArgs (topS 54)) (defBody (topS 54)) (defScope (topS 54)) [] [] (He.ga K "_law_bond") fd__law_bond) (d__law_draw : FnOk P w K mg base (L2.CX P w) 1 (He.ga K "_law_draw") fd__law_draw ["_law_flow_here", "_law_size"] (spD K [true, false] F__law_draw)) (kp__law_draw : PySem.W.keepIn K (.ref (He.ga K "_law_draw")) = true) (d__law_pick : FnOk P w K mg base (L2.CX P w) 2 (He.ga K "_law_pick") fd__law_pick ["_law_flow_here", "_law_row"] (spD K [true, false] F__law_pick)) (kp__law_pick : PySem.W.keepIn K (.ref (He.ga K "_law_pick")) = true) (b__law_draw_2_ : BOk K fd__law_draw ["_law_flow_here", "_law_size"] 2 [] [.arg 0, .arg 1]) (b__law_pick_2_ : BOk K fd__law_pick ["_law_flow_here", "_law_row"] 2 [] [.arg 0, .arg 1]) : FnOk P w K mg base (L2.CX P w) 3 (He.ga K "_law_bond") fd__law_bond ["_law_flow_here", "_law_points_here", "_law_far"] (spD K [true, false, false] F__law_bond) :=
  def_ok (N := ["_law_flow_here", "_law_points_here", "_law_far", "_law_rest", "_law_one", "_law_other", "_law_low", "_law_high", "_law_kind"]) F (C8.fnScope_by (by decide)) rfl fun cdv A outer s H E W c => by
      have cx := c.toCCx
      have hN : List.Nodup (["_law_flow_here", "_law_points_here", "_law_far", "_law_rest", "_law_one", "_law_other", "_law_low", "_law_high", "_law_kind"] : List Str) := by decide
      exact (dss_cons (ds_set 3 hN (de_callTy (cr_list rfl) ok_list (fc.fr' 16) (da_cons (de_var 1) da_nil)))
  (dss_cons (ds_set 4 hN (de_popAt (pl_var 3) (dc cx d__law_draw (fc.gl' 14) kp__law_draw b__law_draw_2_ (dall_pos (dg_slot 0 (dg_val (de_callB cr_len ok_len (fc.fr' 13) (da_cons (de_var 3) da_nil)) dg_nil))))))
  (dss_cons (ds_set 5 hN (dc cx d__law_pick (fc.gl' 15) kp__law_pick b__law_pick_2_ (dall_pos (dg_slot 0 (dg_val (de_var 3) dg_nil)))))
  (dss_cons (ds_set 6 hN (de_bin op_sub ok_sub (dc cx d__law_draw (fc.gl' 14) kp__law_draw b__law_draw_2_ (dall_pos (dg_slot 0 (dg_val (de_bin op_add4 ok_add (de_bin op_mul ok_mul de_int (de_var 2)) de_int) dg_nil)))) (de_var 2)))
  (dss_cons (ds_set 7 hN (de_bin op_add4 ok_add (de_chk (de_var 6)) (dc cx d__law_draw (fc.gl' 14) kp__law_draw b__law_draw_2_ (dall_pos (dg_slot 0 (dg_val (de_bin op_add4 ok_add (de_bin op_mul ok_mul de_int (de_var 2)) de_int) dg_nil)))) (hp := fun _ _ h => by cases h)))
  (dss_cons (ds_set 8 hN (dc cx d__law_draw (fc.gl' 14) kp__law_draw b__law_draw_2_ (dall_pos (dg_slot 0 (dg_val de_int dg_nil)))))
  (dss_cons (ds_if (dt_cmp (op_eqF (unitsE cx)) ok_eqF (de_var 8) de_int) (dss_one (ds_ret (de_tup (da_cons (de_fz 4) (da_cons (de_fz 5) (da_cons (de_chk (de_var 6)) (da_cons de_non da_nil))) (hp := fun _ _ h => by cases h))))) dss_nil)
  (dss_cons (ds_if (dt_cmp (op_eqF (unitsE cx)) ok_eqF (de_var 8) de_int) (dss_one (ds_ret (de_tup (da_cons (de_fz 4) (da_cons (de_fz 5) (da_cons de_non (da_cons (de_chk (de_var 7)) da_nil))) (hp := fun _ _ h => by cases h))))) dss_nil)
  (dss_one (ds_ret (de_tup (da_cons (de_fz 4) (da_cons (de_fz 5) (da_cons (de_chk (de_var 6)) (da_cons (de_chk (de_var 7)) da_nil))) (hp := fun _ _ h => by cases h)))))))))))))
theorem t__law_model (fc : FC fa K mg) (F : FunD K "_law_model" "_law_model" (defArgs (topS 50)) (defBody (topS 50)) (defScope (topS 50)) [] [] (He.ga K "_law_model") fd__law_model) : FnOk P w K mg base (L2.CX P w) 1 (He.ga K "_law_model") fd__law_model ["_law_last"] (spD K [false] F__law_model) :=
  def_ok (N := ["_law_last"]) F (C8.fnScope_by (by decide)) rfl fun cdv A outer s H E W c => by
      have cx := c.toCCx
      have hN : List.Nodup (["_law_last"] : List Str) := by decide
      exact (dss_one (ds_ret (de_disp (dp_cons (de_chk (de_var 0)) (dp_cons (de_lst da_nil) (dp_cons (de_lst da_nil) (dp_cons (de_lst da_nil) dp_nil)))))))
theorem t__law_names (fc : FC fa K mg) (F : FunD K "_law_names" "_law_names" (defArgs (topS 49)) (defBody (topS 49)) (defScope (topS 49)) [] [] (He.ga K "_law_names") fd__law_names) (d__law_draw : FnOk P w K mg base (L2.CX P w) 1 (He.ga K "_law_draw") fd__law_draw ["_law_flow_here", "_law_size"] (spD K [true, false] F__law_draw)) (kp__law_draw : PySem.W.keepIn K (.ref (He.ga K "_law_draw")) = true) (b__law_draw_2_ : BOk K fd__law_draw ["_law_flow_here", "_law_size"] 2 [] [.arg 0, .arg 1]) : FnOk P w K mg base (L2.CX P w) 2 (He.ga K "_law_names") fd__law_names ["_law_flow_here", "_law_many"] (spD K [true, false] F__law_names) :=
  def_ok (N := ["_law_flow_here", "_law_many", "_law_pool", "_law_found", "_law_k"]) F (C8.fnScope_by (by decide)) rfl fun cdv A outer s H E W c => by
      have cx := c.toCCx
      have hN : List.Nodup (["_law_flow_here", "_law_many", "_law_pool", "_law_found", "_law_k"] : List Str) := by decide
      exact (dss_cons (ds_set 2 hN (de_lst (da_cons de_str (da_cons de_str (da_cons de_str (da_cons de_str (da_cons de_str (da_cons de_str (da_cons de_str (da_cons de_str (da_cons de_str (da_cons de_str (da_cons de_str (da_cons de_str (da_cons de_str (da_cons de_str da_nil))))))))))))))))
  (dss_cons (ds_set 3 hN (de_lst da_nil))
  (dss_cons (ds_for1 c.hp rfl rfl (fc.fr' 17) (da_cons (de_var 1) da_nil) (dg_name 4 hN) (dss_one (ds_expr (de_append (pl_var 3) (de_popAt (pl_var 2) (dc cx d__law_draw (fc.gl' 14) kp__law_draw b__law_draw_2_ (dall_pos (dg_slot 0 (dg_val (de_callB cr_len ok_len (fc.fr' 13) (da_cons (de_var 2) da_nil)) dg_nil)))))))))
  (dss_one (ds_ret (de_mv 3))))))
theorem t__law_points (fc : FC fa K mg) (F : FunD K "_law_points" "_law_points" (defArgs (topS 51)) (defBody (topS 51)) (defScope (topS 51)) [] [] (He.ga K "_law_points") fd__law_points) : FnOk P w K mg base (L2.CX P w) 1 (He.ga K "_law_points") fd__law_points ["_law_m"] (spD K [false] F__law_points) :=
  def_ok (N := ["_law_m", "_law_wind_here"]) F (C8.fnScope_by (by decide)) rfl fun cdv A outer s H E W c => by
      have cx := c.toCCx
      have hN : List.Nodup (["_law_m", "_law_wind_here"] : List Str) := by decide
      exact (dss_one (ds_ret (de_bin op_add4 ok_add (de_bin op_add4 ok_add (de_lst (da_cons de_str da_nil)) (de_sub (units1 cx) (de_var 0) de_str)) (de_lc 2 [1] [("_law_wind_here", 1)] rfl hN (di_any (de_sub (units1 cx) (de_var 0) de_str)) (fun s2 H2 C2 cl2 fp2 => (dg_name 1 hN)) (fun s2 H2 C2 cl2 fp2 => dts_nil) (fun s2 H2 C2 cl2 fp2 => (de_chk (de_sub (units1 (cxB cx)) (de_var 1) de_int)))))))
theorem t__law_wind (fc : FC fa K mg) (F : FunD K "_law_wind" "_law_wind" (defArgs (topS 53)) (defBody (topS 53)) (defScope (topS 53)) [] [] (He.ga K "_law_wind") fd__law_wind) (d__law_pick : FnOk P w K mg base (L2.CX P w) 2 (He.ga K "_law_pick") fd__law_pick ["_law_flow_here", "_law_row"] (spD K [true, false] F__law_pick)) (kp__law_pick : PySem.W.keepIn K (.ref (He.ga K "_law_pick")) = true) (d__law_draw : FnOk P w K mg base (L2.CX P w) 1 (He.ga K "_law_draw") fd__law_draw ["_law_flow_here", "_law_size"] (spD K [true, false] F__law_draw)) (kp__law_draw : PySem.W.keepIn K (.ref (He.ga K "_law_draw")) = true) (b__law_pick_2_ : BOk K fd__law_pick ["_law_flow_here", "_law_row"] 2 [] [.arg 0, .arg 1]) (b__law_draw_2_ : BOk K fd__law_draw ["_law_flow_here", "_law_size"] 2 [] [.arg 0, .arg 1]) : FnOk P w K mg base (L2.CX P w) 3 (He.ga K "_law_wind") fd__law_wind ["_law_flow_here", "_law_end", "_law_own", "_law_far"] (spD K [true, false, false, false] F__law_wind) :=
  def_ok (N := ["_law_flow_here", "_law_end", "_law_own", "_law_far", "_law_low", "_law_high", "_law_hush"]) F (C8.fnScope_by (by decide)) rfl fun cdv A outer s H E W c => by
      have cx := c.toCCx
      have hN : List.Nodup (["_law_flow_here", "_law_end", "_law_own", "_law_far", "_law_low", "_law_high", "_law_hush"] : List Str) := by decide
      exact (dss_cons (ds_set 4 hN (de_bin op_add4 ok_add de_int (dc cx d__law_draw (fc.gl' 14) kp__law_draw b__law_draw_2_ (dall_pos (dg_slot 0 (dg_val (de_var 3) dg_nil)))) (hp := fun _ _ h => by cases h)))
  (dss_cons (ds_set 5 hN (de_bin op_add4 ok_add (de_chk (de_var 4)) (dc cx d__law_draw (fc.gl' 14) kp__law_draw b__law_draw_2_ (dall_pos (dg_slot 0 (dg_val (de_var 3) dg_nil)))) (hp := fun _ _ h => by cases h)))
  (dss_cons (ds_set 6 hN (de_sub (units1 cx) (de_lst (da_cons de_int (da_cons de_int (da_cons de_int (da_cons (de_bin op_add4 ok_add de_int (dc cx d__law_draw (fc.gl' 14) kp__law_draw b__law_draw_2_ (dall_pos (dg_slot 0 (dg_val (de_var 3) dg_nil)))) (hp := fun _ _ h => by cases h)) (da_cons de_non da_nil)) (hp := fun _ _ h => by cases h)) (hp := fun _ _ h => by cases h)) (hp := fun _ _ h => by cases h))) (dc cx d__law_draw (fc.gl' 14) kp__law_draw b__law_draw_2_ (dall_pos (dg_slot 0 (dg_val de_int dg_nil)))) (hp := fun _ _ h => by cases h)))
  (dss_one (ds_ret (de_tup (da_cons (de_chk (de_var 1)) (da_cons (dc cx d__law_pick (fc.gl' 15) kp__law_pick b__law_pick_2_ (dall_pos (dg_slot 0 (dg_val (de_bin op_add4 ok_add (de_lst (da_cons de_str da_nil)) (de_var 2)) dg_nil)))) (da_cons (de_chk (de_var 4)) (da_cons (de_chk (de_var 5)) (da_cons (de_chk (de_var 6)) da_nil)))) (hp := fun _ _ h => by cases h))))))))
theorem t__law_drawn (fc : FC fa K mg) (F : FunD K "_law_drawn" "_law_drawn" (defArgs (topS 55)) (defBody (topS 55)) (defScope (topS 55)) [] [] (He.ga K "_law_drawn") fd__law_drawn) (d__law_bond : FnOk P w K mg base (L2.CX P w) 3 (He.ga K "_law_bond") fd__law_bond ["_law_flow_here", "_law_points_here", "_law_far"] (spD K [true, false, false] F__law_bond)) (kp__law_bond : PySem.W.keepIn K (.ref (He.ga K "_law_bond")) = true) (d__law_points : FnOk P w K mg base (L2.CX P w) 1 (He.ga K "_law_points") fd__law_points ["_law_m"] (spD K [false] F__law_points)) (kp__law_points : PySem.W.keepIn K (.ref (He.ga K "_law_points")) = true) (d__law_wind : FnOk P w K mg base (L2.CX P w) 3 (He.ga K "_law_wind") fd__law_wind ["_law_flow_here", "_law_end", "_law_own", "_law_far"] (spD K [true, false, false, false] F__law_wind)) (kp__law_wind : PySem.W.keepIn K (.ref (He.ga K "_law_wind")) = true) (d__law_names : FnOk P w K mg base (L2.CX P w) 2 (He.ga K "_law_names") fd__law_names ["_law_flow_here", "_law_many"] (spD K [true, false] F__law_names)) (kp__law_names : PySem.W.keepIn K (.ref (He.ga K "_law_names")) = true) (d__law_model : FnOk P w K mg base (L2.CX P w) 1 (He.ga K "_law_model") fd__law_model ["_law_last"] (spD K [false] F__law_model)) (kp__law_model : PySem.W.keepIn K (.ref (He.ga K "_law_model")) = true) (b__law_bond_3_ : BOk K fd__law_bond ["_law_flow_here", "_law_points_here", "_law_far"] 3 [] [.arg 0, .arg 1, .arg 2]) (b__law_points_1_ : BOk K fd__law_points ["_law_m"] 1 [] [.arg 0]) (b__law_wind_4_ : BOk K fd__law_wind ["_law_flow_here", "_law_end", "_law_own", "_law_far"] 4 [] [.arg 0, .arg 1, .arg 2, .arg 3]) (b__law_names_2_ : BOk K fd__law_names ["_law_flow_here", "_law_many"] 2 [] [.arg 0, .arg 1]) (b__law_model_1_ : BOk K fd__law_model ["_law_last"] 1 [] [.arg 0]) : FnOk P w K mg base (L2.CX P w) 4 (He.ga K "_law_drawn") fd__law_drawn ["_law_flow_here", "_law_own", "_law_winds", "_law_bonds", "_law_far", "_law_last"] (spD K [true, false, false, false, false, false] F__law_drawn) :=
  def_ok (N := ["_law_flow_here", "_law_own", "_law_winds", "_law_bonds", "_law_far", "_law_last", "_law_m", "_law_names_here", "_law_end", "_law_k"]) F (C8.fnScope_by (by decide)) rfl fun cdv A outer s H E W c => by
      have cx := c.toCCx
      have hN : List.Nodup (["_law_flow_here", "_law_own", "_law_winds", "_law_bonds", "_law_far", "_law_last", "_law_m", "_law_names_here", "_law_end", "_law_k"] : List Str) := by decide
      exact (dss_cons (ds_set 6 hN (dc cx d__law_model (fc.gl' 22) kp__law_model b__law_model_1_ (dall_pos (dg_val (de_var 5) dg_nil))))
  (dss_cons (ds_set 7 hN (dc cx d__law_names (fc.gl' 21) kp__law_names b__law_names_2_ (dall_pos (dg_slot 0 (dg_val (de_bin op_add4 ok_add (de_var 1) (de_var 2)) dg_nil)))))
  (dss_cons (ds_asg (de_slice (de_var 7) do_none (do_some (de_var 1))) (dg_sub (W := W) (units1 cx) (pl_var 6) de_str))
  (dss_cons (ds_forI c.hp rfl (di_any (de_slice (de_var 7) (do_some (de_var 1)) do_none)) (dg_name 8 hN) (dss_one (ds_expr (de_append (pl_ix (W := W) (units1 cx) (pl_var 6) de_str) (dc cx d__law_wind (fc.gl' 20) kp__law_wind b__law_wind_4_ (dall_pos (dg_slot 0 (dg_val (de_var 8) (dg_val (de_sub (units1 cx) (de_var 6) de_str) (dg_val (de_var 4) dg_nil))))))))))
  (dss_cons (ds_for1 c.hp rfl rfl (fc.fr' 17) (da_cons (de_var 3) da_nil) (dg_name 9 hN) (dss_one (ds_expr (de_append (pl_ix (W := W) (units1 cx) (pl_var 6) de_str) (dc cx d__law_bond (fc.gl' 19) kp__law_bond b__law_bond_3_ (dall_pos (dg_slot 0 (dg_val (dc cx d__law_points (fc.gl' 18) kp__law_points b__law_points_1_ (dall_pos (dg_val (de_var 6) dg_nil))) (dg_val (de_var 4) dg_nil)))))))))
  (dss_one (ds_ret (de_mv 6))))))))
theorem t__law_flow (fc : FC fa K mg) (F : FunD K "_law_flow" "_law_flow" (defArgs (topS 45)) (defBody (topS 45)) (defScope (topS 45)) [] [] (He.ga K "_law_flow") fd__law_flow) : FnOk P w K mg base (L2.CX P w) 1 (He.ga K "_law_flow") fd__law_flow ["_law_script"] (spD K [false] F__law_flow) :=
  def_ok (N := ["_law_script"]) F (C8.fnScope_by (by decide)) rfl fun cdv A outer s H E W c => by
      have cx := c.toCCx
      have hN : List.Nodup (["_law_script"] : List Str) := by decide
      exact (dss_one (ds_ret (de_lst (da_cons (de_callTy (cr_list rfl) ok_list (fc.fr' 16) (da_cons (de_slice (de_var 0) do_none (do_some de_int)) da_nil)) (da_cons de_int (da_cons de_int (da_cons de_int da_nil)))))))
theorem t__law_same {lv : Nat} (fc : FC fa K mg) (h_tab_list : isiB K (.type "list") tab_list = true) (h_tab_tuple : isiB K (.type "tuple") tab_tuple = true) (h_tab_dict : isiB K (.type "dict") tab_dict = true) (h_tab_str : isiB K (.type "str") tab_str = true) (h_tab_int : isiB K (.type "int") tab_int = true) (h_tab_bool : isiB K (.type "bool") tab_bool = true) (F : FunD K "_law_same" "_law_same" (defArgs (topS 48)) (defBody (topS 48)) (defScope (topS 48)) [] [] (He.ga K "_law_same") fd__law_same) (kp__law_same : PySem.W.keepIn K (.ref (He.ga K "_law_same")) = true) (b__law_same_2_ : BOk K fd__law_same ["_law_found", "_law_due"] 2 [] [.arg 0, .arg 1]) : ∀ n, FnOk P w K mg base (L2.CX P w) (1 + n) (He.ga K "_law_same") fd__law_same ["_law_found", "_law_due"] (spD K [false, false] (F__law_same_n n))
  | 0 => fnOk_stuck rfl
  | n + 1 => by
    have d__law_same := t__law_same (lv := lv) fc h_tab_list h_tab_tuple h_tab_dict h_tab_str h_tab_int h_tab_bool F kp__law_same b__law_same_2_ n
    exact def_ok (N := ["_law_found", "_law_due", "_law_key", "_law_k"]) F (C8.fnScope_by (by decide)) rfl fun cdv A outer s H E W c => by
      have cx := c.toCCx
      have hN : List.Nodup (["_law_found", "_law_due", "_law_key", "_law_k"] : List Str) := by decide
      exact (dss_cons (ds_if (dt_val (de_isiB "bool" tab_bool (fc.fr' 5) (fc.fr' 7) (de_var 1) h_tab_bool)) (dss_one (ds_ret (de_and (de_isiB "bool" tab_bool (fc.fr' 5) (fc.fr' 7) (de_var 0) h_tab_bool) (de_bool1 (de_cmp (op_eqF (unitsE cx)) ok_eqF (de_var 0) (de_var 1)))))) dss_nil)
  (dss_cons (ds_if (dt_cmp op_isN ok_isN (de_var 1) de_non) (dss_one (ds_ret (de_cmp op_isN ok_isN (de_var 0) de_non))) dss_nil)
  (dss_cons (ds_if (dt_val (de_isiB "int" tab_int (fc.fr' 5) (fc.fr' 8) (de_var 1) h_tab_int)) (dss_cons (ds_if (DW.dt (dw_or (dt_val (de_isiB "bool" tab_bool (fc.fr' 5) (fc.fr' 7) (de_var 0) h_tab_bool)) (dw_or1 (dt_not (dt_val (de_isiB "int" tab_int (fc.fr' 5) (fc.fr' 8) (de_var 0) h_tab_int)))))) (dss_one (ds_ret (de_own de_bl))) dss_nil)
  (dss_one (ds_ret (de_cmp (op_eqF (unitsE cx)) ok_eqF (de_var 0) (de_var 1))))) dss_nil)
  (dss_cons (ds_if (dt_val (de_isiB "str" tab_str (fc.fr' 5) (fc.fr' 11) (de_var 1) h_tab_str)) (dss_one (ds_ret (de_and (de_isiB "str" tab_str (fc.fr' 5) (fc.fr' 11) (de_var 0) h_tab_str) (de_bool1 (de_cmp (op_eqF (unitsE cx)) ok_eqF (de_var 0) (de_var 1)))))) dss_nil)
  (dss_cons (ds_if (dt_val (de_isiB "dict" tab_dict (fc.fr' 5) (fc.fr' 26) (de_var 1) h_tab_dict)) (dss_cons (ds_if (DW.dt (dw_or (dt_not (dt_val (de_isiB "dict" tab_dict (fc.fr' 5) (fc.fr' 26) (de_var 0) h_tab_dict))) (dw_or1 (dt_cmp (op_neF (unitsE cx)) ok_neF (de_callB cr_len ok_len (fc.fr' 13) (da_cons (de_var 0) da_nil)) (de_callB cr_len ok_len (fc.fr' 13) (da_cons (de_var 1) da_nil)))))) (dss_one (ds_ret (de_own de_bl))) dss_nil)
  (dss_cons (ds_forI c.hp rfl (di_any (de_var 1)) (dg_name 2 hN) (dss_one (ds_if (DW.dt (dw_or (dt_cmp (op_notInAny (units1 cx)) ok_notInAny (de_var 2) (de_var 0)) (dw_or1 (dt_not (dt_val (dc cx d__law_same (fc.gl' 23) kp__law_same b__law_same_2_ (dall_pos (dg_val (de_sub (units1 cx) (de_var 0) (de_var 2)) (dg_val (de_sub (units1 cx) (de_var 1) (de_var 2)) dg_nil))))))))) (dss_one (ds_ret (de_own de_bl))) dss_nil)))
  (dss_one (ds_ret (de_own de_bl))))) dss_nil)
  (dss_cons (ds_if (DW.dt (dw_and (dt_val (de_isiB "tuple" tab_tuple (fc.fr' 5) (fc.fr' 25) (de_var 1) h_tab_tuple)) (dw_and1 (dt_not (dt_val (de_isiB "tuple" tab_tuple (fc.fr' 5) (fc.fr' 25) (de_var 0) h_tab_tuple)))))) (dss_one (ds_ret (de_own de_bl))) dss_nil)
  (dss_cons (ds_if (DW.dt (dw_and (dt_val (de_isiB "list" tab_list (fc.fr' 5) (fc.fr' 16) (de_var 1) h_tab_list)) (dw_and1 (dt_not (dt_val (de_isiB "list" tab_list (fc.fr' 5) (fc.fr' 16) (de_var 0) h_tab_list)))))) (dss_one (ds_ret (de_own de_bl))) dss_nil)
  (dss_cons (ds_if (dt_cmp (op_neF (unitsE cx)) ok_neF (de_callB cr_len ok_len (fc.fr' 13) (da_cons (de_var 0) da_nil)) (de_callB cr_len ok_len (fc.fr' 13) (da_cons (de_var 1) da_nil))) (dss_one (ds_ret (de_own de_bl))) dss_nil)
  (dss_one (ds_ret (de_callB (cr_all rfl) ok_all (fc.fr' 24) (da_cons (de_lc 4 [3] [("_law_k", 3)] rfl hN (di_rng1 rfl (fc.fr' 17) (da_cons (de_callB cr_len ok_len (fc.fr' 13) (da_cons (de_var 1) da_nil)) da_nil)) (fun s2 H2 C2 cl2 fp2 => (dg_name 3 hN)) (fun s2 H2 C2 cl2 fp2 => dts_nil) (fun s2 H2 C2 cl2 fp2 => (dc (cxB cx) d__law_same (fc.gl' 23) kp__law_same b__law_same_2_ (dall_pos (dg_val (de_sub (units1 (cxB cx)) (de_var 0) (de_var 3)) (dg_val (de_sub (units1 (cxB cx)) (de_var 1) (de_var 3)) dg_nil)))))) da_nil))))))))))))
theorem t_Web___len__ (fc : FC fa K mg) (F : FunD K "__len__" "Web.__len__" (defArgs (inClass (topS 30) 1)) (defBody (inClass (topS 30) 1)) (defScope (inClass (topS 30) 1)) [] [] (He.ma K (He.ga K "Web") "__len__") fd_Web___len__) : FnOk P w K mg base (L2.CX P w) 1 (He.ma K (He.ga K "Web") "__len__") fd_Web___len__ ["self"] (spD K [false] F_Web___len__) :=
  def_ok (N := ["self"]) F (C8.fnScope_by (by decide)) rfl fun cdv A outer s H E W c => by
      have cx := c.toCCx
      have hN : List.Nodup (["self"] : List Str) := by decide
      exact (dss_one (ds_ret (de_callB cr_len ok_len (fc.fr' 13) (da_cons (de_bin op_add4 ok_add (de_bin op_add4 ok_add (de_lst (da_cons (de_gstr (fc.str' 27)) da_nil)) (de_fld "Web" (fc.f 0) (fc.f 2) (de_var 0))) (de_fld "Web" (fc.f 0) (fc.f 3) (de_var 0))) da_nil))))
theorem t_Web___repr__ (fc : FC fa K mg) (F : FunD K "__repr__" "Web.__repr__" (defArgs (inClass (topS 30) 3)) (defBody (inClass (topS 30) 3)) (defScope (inClass (topS 30) 3)) [] [] (He.ma K (He.ga K "Web") "__repr__") fd_Web___repr__) : FnOk P w K mg base (L2.CX P w) 1 (He.ma K (He.ga K "Web") "__repr__") fd_Web___repr__ ["self"] (spD K [false] F_Web___repr__) :=
  def_ok (N := ["self"]) F (C8.fnScope_by (by decide)) rfl fun cdv A outer s H E W c => by
      have cx := c.toCCx
      have hN : List.Nodup (["self"] : List Str) := by decide
      exact (dss_one (ds_ret (de_joined (.cons de_str (.cons (de_fmt (de_bin op_add4 ok_add (de_bin op_add4 ok_add (de_callB cr_len ok_len (fc.fr' 13) (da_cons (de_fld "Web" (fc.f 0) (fc.f 2) (de_var 0)) da_nil)) (de_callB cr_len ok_len (fc.fr' 13) (da_cons (de_fld "Web" (fc.f 0) (fc.f 3) (de_var 0)) da_nil))) de_int)) (.cons de_str (.cons (de_fmt (de_callB cr_len ok_len (fc.fr' 13) (da_cons (de_fld "Web" (fc.f 0) (fc.f 4) (de_var 0)) da_nil))) (.cons de_str (.cons (de_fmt (de_fld "Web" (fc.f 0) (fc.f 1) (de_var 0))) (.cons de_str .nil))))))))))
theorem t_Web_moments (fc : FC fa K mg) (F : FunD K "moments" "Web.moments" (defArgs (inClass (topS 30) 5)) (defBody (inClass (topS 30) 5)) (defScope (inClass (topS 30) 5)) [] [] (He.ma K (He.ga K "Web") "moments") fd_Web_moments) : FnOk P w K mg base (L2.CX P w) 1 (He.ma K (He.ga K "Web") "moments") fd_Web_moments ["self"] (spD K [false] F_Web_moments) :=
  def_ok (N := ["self"]) F (C8.fnScope_by (by decide)) rfl fun cdv A outer s H E W c => by
      have cx := c.toCCx
      have hN : List.Nodup (["self"] : List Str) := by decide
      exact (dss_one (ds_ret (de_callTy (cr_list rfl) ok_list (fc.fr' 16) (da_cons (de_fld "Web" (fc.f 0) (fc.f 2) (de_var 0)) da_nil))))
theorem t_Web_points (fc : FC fa K mg) (F : FunD K "points" "Web.points" (defArgs (inClass (topS 30) 8)) (defBody (inClass (topS 30) 8)) (defScope (inClass (topS 30) 8)) [] [] (He.ma K (He.ga K "Web") "points") fd_Web_points) : FnOk P w K mg base (L2.CX P w) 1 (He.ma K (He.ga K "Web") "points") fd_Web_points ["self"] (spD K [false] F_Web_points) :=
  def_ok (N := ["self", "end", "rest"]) F (C8.fnScope_by (by decide)) rfl fun cdv A outer s H E W c => by
      have cx := c.toCCx
      have hN : List.Nodup (["self", "end", "rest"] : List Str) := by decide
      exact (dss_one (ds_ret (de_bin op_add4 ok_add (de_bin op_add4 ok_add (de_lst (da_cons (de_gstr (fc.str' 27)) da_nil)) (de_fld "Web" (fc.f 0) (fc.f 2) (de_var 0))) (de_lc 3 [1, 2] [("end", 1), ("rest", 2)] rfl hN (di_any (de_fld "Web" (fc.f 0) (fc.f 3) (de_var 0))) (fun s2 H2 C2 cl2 fp2 => (dg_star rfl (dgs_cons (dg_name 1 hN) (dgs_star1 (dg_name 2 hN))))) (fun s2 H2 C2 cl2 fp2 => dts_nil) (fun s2 H2 C2 cl2 fp2 => (de_chk (de_var 1)))))))
theorem t_Web_spans (fc : FC fa K mg) (F : FunD K "spans" "Web.spans" (defArgs (inClass (topS 30) 6)) (defBody (inClass (topS 30) 6)) (defScope (inClass (topS 30) 6)) [] [] (He.ma K (He.ga K "Web") "spans") fd_Web_spans) : FnOk P w K mg base (L2.CX P w) 1 (He.ma K (He.ga K "Web") "spans") fd_Web_spans ["self"] (spD K [false] F_Web_spans) :=
  def_ok (N := ["self"]) F (C8.fnScope_by (by decide)) rfl fun cdv A outer s H E W c => by
      have cx := c.toCCx
      have hN : List.Nodup (["self"] : List Str) := by decide
      exact (dss_one (ds_ret (de_callTy (cr_list rfl) ok_list (fc.fr' 16) (da_cons (de_fld "Web" (fc.f 0) (fc.f 3) (de_var 0)) da_nil))))
theorem t_Web_ties (fc : FC fa K mg) (F : FunD K "ties" "Web.ties" (defArgs (inClass (topS 30) 7)) (defBody (inClass (topS 30) 7)) (defScope (inClass (topS 30) 7)) [] [] (He.ma K (He.ga K "Web") "ties") fd_Web_ties) : FnOk P w K mg base (L2.CX P w) 1 (He.ma K (He.ga K "Web") "ties") fd_Web_ties ["self"] (spD K [false] F_Web_ties) :=
  def_ok (N := ["self"]) F (C8.fnScope_by (by decide)) rfl fun cdv A outer s H E W c => by
      have cx := c.toCCx
      have hN : List.Nodup (["self"] : List Str) := by decide
      exact (dss_one (ds_ret (de_callTy (cr_list rfl) ok_list (fc.fr' 16) (da_cons (de_fld "Web" (fc.f 0) (fc.f 4) (de_var 0)) da_nil))))
theorem t__law_stands (fc : FC fa K mg) (F : FunD K "_law_stands" "_law_stands" (defArgs (topS 56)) (defBody (topS 56)) (defScope (topS 56)) [] [] (He.ga K "_law_stands") fd__law_stands) (d__law_same : FnOk P w K mg base (L2.CX P w) 9 (He.ga K "_law_same") fd__law_same ["_law_found", "_law_due"] (spD K [false, false] F__law_same)) (kp__law_same : PySem.W.keepIn K (.ref (He.ga K "_law_same")) = true) (d_Web___repr__ : FnOk P w K mg base (L2.CX P w) 1 (He.ma K (He.ga K "Web") "__repr__") fd_Web___repr__ ["self"] (spD K [false] F_Web___repr__)) (d_Web_ties : FnOk P w K mg base (L2.CX P w) 1 (He.ma K (He.ga K "Web") "ties") fd_Web_ties ["self"] (spD K [false] F_Web_ties)) (d_Web_points : FnOk P w K mg base (L2.CX P w) 1 (He.ma K (He.ga K "Web") "points") fd_Web_points ["self"] (spD K [false] F_Web_points)) (d_Web___len__ : FnOk P w K mg base (L2.CX P w) 1 (He.ma K (He.ga K "Web") "__len__") fd_Web___len__ ["self"] (spD K [false] F_Web___len__)) (d_Web_moments : FnOk P w K mg base (L2.CX P w) 1 (He.ma K (He.ga K "Web") "moments") fd_Web_moments ["self"] (spD K [false] F_Web_moments)) (d_Web_spans : FnOk P w K mg base (L2.CX P w) 1 (He.ma K (He.ga K "Web") "spans") fd_Web_spans ["self"] (spD K [false] F_Web_spans)) (d__law_points : FnOk P w K mg base (L2.CX P w) 1 (He.ga K "_law_points") fd__law_points ["_law_m"] (spD K [false] F__law_points)) (kp__law_points : PySem.W.keepIn K (.ref (He.ga K "_law_points")) = true) (b__law_same_2_ : BOk K fd__law_same ["_law_found", "_law_due"] 2 [] [.arg 0, .arg 1]) (b_Web___repr___1_ : BOk K fd_Web___repr__ ["self"] 1 [] [.arg 0]) (b_Web_ties_1_ : BOk K fd_Web_ties ["self"] 1 [] [.arg 0]) (b_Web_points_1_ : BOk K fd_Web_points ["self"] 1 [] [.arg 0]) (b_Web___len___1_ : BOk K fd_Web___len__ ["self"] 1 [] [.arg 0]) (b_Web_moments_1_ : BOk K fd_Web_moments ["self"] 1 [] [.arg 0]) (b_Web_spans_1_ : BOk K fd_Web_spans ["self"] 1 [] [.arg 0]) (b__law_points_1_ : BOk K fd__law_points ["_law_m"] 1 [] [.arg 0]) : FnOk P w K mg base (L2.CX P w) 10 (He.ga K "_law_stands") fd__law_stands ["_law_web_here", "_law_m"] (spD K [false, false] F__law_stands) :=
  def_ok (N := ["_law_web_here", "_law_m", "_law_points_here", "_law_found", "_law_text"]) F (C8.fnScope_by (by decide)) rfl fun cdv A outer s H E W c => by
      have cx := c.toCCx
      have hN : List.Nodup (["_law_web_here", "_law_m", "_law_points_here", "_law_found", "_law_text"] : List Str) := by decide
      exact (dss_cons (ds_set 2 hN (dc cx d__law_points (fc.gl' 18) kp__law_points b__law_points_1_ (dall_pos (dg_val (de_var 1) dg_nil))))
  (dss_cons (ds_set 3 hN (de_lst (da_cons (de_chk (de_fld "Web" (fc.f 0) (fc.f 1) (de_var 0))) (da_cons (dm "Web" cx (de_var 0) (fc.f 0) (fc.f 33) d_Web_moments b_Web_moments_1_ dall_nil) (da_cons (dm "Web" cx (de_var 0) (fc.f 0) (fc.f 34) d_Web_spans b_Web_spans_1_ dall_nil) da_nil)))))
  (dss_cons (ds_if (dt_not (dt_val (dc cx d__law_same (fc.gl' 23) kp__law_same b__law_same_2_ (dall_pos (dg_val (de_var 3) (dg_val (de_lst (da_cons (de_chk (de_sub (units1 cx) (de_var 1) de_str)) (da_cons (de_chk (de_sub (units1 cx) (de_var 1) de_str)) (da_cons (de_chk (de_sub (units1 cx) (de_var 1) de_str)) da_nil)))) dg_nil)))))) (dss_one (ds_ret (de_own de_bl))) dss_nil)
  (dss_cons (ds_set 3 hN (de_lst (da_cons (dm "Web" cx (de_var 0) (fc.f 0) (fc.f 30) d_Web_ties b_Web_ties_1_ dall_nil) (da_cons (dm "Web" cx (de_var 0) (fc.f 0) (fc.f 31) d_Web_points b_Web_points_1_ dall_nil) (da_cons (de_lenOwn "Web" cx d_Web___len__ b_Web___len___1_ (fc.f 32) (fc.fr' 13) (de_var 0)) da_nil)))))
  (dss_cons (ds_if (dt_not (dt_val (dc cx d__law_same (fc.gl' 23) kp__law_same b__law_same_2_ (dall_pos (dg_val (de_fz 3) (dg_val (de_lst (da_cons (de_chk (de_sub (units1 cx) (de_var 1) de_str)) (da_cons (de_fz 2) (da_cons (de_callB cr_len ok_len (fc.fr' 13) (da_cons (de_var 2) da_nil)) da_nil)) (hp := fun _ _ h => by cases h))) dg_nil) (hp := fun _ _ h => by cases h)))))) (dss_one (ds_ret (de_own de_bl))) dss_nil)
  (dss_cons (ds_set 4 hN (de_bin op_add4 ok_add (de_bin op_add4 ok_add de_str (de_callTy cr_str ok_str (fc.fr' 11) (da_cons (de_callB cr_len ok_len (fc.fr' 13) (da_cons (de_var 2) da_nil)) da_nil))) de_str))
  (dss_cons (ds_set 4 hN (de_bin op_add4 ok_add (de_bin op_add4 ok_add (de_bin op_add4 ok_add (de_bin op_add4 ok_add (de_var 4) (de_callTy cr_str ok_str (fc.fr' 11) (da_cons (de_callB cr_len ok_len (fc.fr' 13) (da_cons (de_sub (units1 cx) (de_var 1) de_str) da_nil)) da_nil))) de_str) (de_callTy cr_str ok_str (fc.fr' 11) (da_cons (de_sub (units1 cx) (de_var 1) de_str) da_nil))) de_str))
  (dss_one (ds_ret (dc cx d__law_same (fc.gl' 23) kp__law_same b__law_same_2_ (dall_pos (dg_val (de_reprOwn "Web" cx d_Web___repr__ b_Web___repr___1_ (fc.f 28) (fc.fr' 29) (de_var 0)) (dg_val (de_var 4) dg_nil)))))))))))))
theorem t_is_name (fc : FC fa K mg) (h_tab_str : isiB K (.type "str") tab_str = true) (F : FunD K "is_name" "is_name" (defArgs (topS 26)) (defBody (topS 26)) (defScope (topS 26)) [] [] (He.ga K "is_name") fd_is_name) : FnOk P w K mg base (L2.CX P w) 1 (He.ga K "is_name") fd_is_name ["thing"] (spD K [false] F_is_name) :=
  def_ok (N := ["thing", "sign"]) F (C8.fnScope_by (by decide)) rfl fun cdv A outer s H E W c => by
      have cx := c.toCCx
      have hN : List.Nodup (["thing", "sign"] : List Str) := by decide
      exact (dss_one (ds_ret (de_and (de_isiB "str" tab_str (fc.fr' 5) (fc.fr' 11) (de_var 0) h_tab_str) (de_and (de_chain op_le op_le ok_le ok_le de_int (de_callB cr_len ok_len (fc.fr' 13) (da_cons (de_var 0) da_nil)) (de_gint (fc.int' 36))) (de_bool1 (de_callB (cr_all rfl) ok_all (fc.fr' 24) (da_cons (de_lc 2 [1] [("sign", 1)] rfl hN (di_any (de_var 0)) (fun s2 H2 C2 cl2 fp2 => (dg_name 1 hN)) (fun s2 H2 C2 cl2 fp2 => dts_nil) (fun s2 H2 C2 cl2 fp2 => (de_cmp (op_inAny (units1 (cxB cx))) ok_inAny (de_var 1) (de_gstr (fc.str' 35))))) da_nil)))))))
theorem t_Web_need_new (fc : FC fa K mg) (F : FunD K "need_new" "Web.need_new" (defArgs (inClass (topS 30) 9)) (defBody (inClass (topS 30) 9)) (defScope (inClass (topS 30) 9)) [] [] (He.ma K (He.ga K "Web") "need_new") fd_Web_need_new) (d_Web_points : FnOk P w K mg base (L2.CX P w) 1 (He.ma K (He.ga K "Web") "points") fd_Web_points ["self"] (spD K [false] F_Web_points)) (d_is_name : FnOk P w K mg base (L2.CX P w) 1 (He.ga K "is_name") fd_is_name ["thing"] (spD K [false] F_is_name)) (kp_is_name : PySem.W.keepIn K (.ref (He.ga K "is_name")) = true) (b_Web_points_1_ : BOk K fd_Web_points ["self"] 1 [] [.arg 0]) (b_is_name_1_ : BOk K fd_is_name ["thing"] 1 [] [.arg 0]) : FnOk P w K mg base (L2.CX P w) 2 (He.ma K (He.ga K "Web") "need_new") fd_Web_need_new ["self", "name"] (spD K [false, false] F_Web_need_new) :=
  def_ok (N := ["self", "name"]) F (C8.fnScope_by (by decide)) rfl fun cdv A outer s H E W c => by
      have cx := c.toCCx
      have hN : List.Nodup (["self", "name"] : List Str) := by decide
      exact (dss_cons (ds_if (dt_not (dt_val (dc cx d_is_name (fc.gl' 37) kp_is_name b_is_name_1_ (dall_pos (dg_val (de_var 1) dg_nil))))) (dss_one ds_never) dss_nil)
  (dss_one (ds_if (dt_cmp (op_inAny (units1 cx)) ok_inAny (de_var 1) (dm "Web" cx (de_var 0) (fc.f 0) (fc.f 31) d_Web_points b_Web_points_1_ dall_nil)) (dss_one ds_never) dss_nil)))
theorem t_Web_turned (fc : FC fa K mg) (F : FunD K "turned" "Web.turned" (defArgs (inClass (topS 30) 4)) (defBody (inClass (topS 30) 4)) (defScope (inClass (topS 30) 4)) [] [("by", .non), ("own", .non), ("winds", .non), ("bonds", .non)] (He.ma K (He.ga K "Web") "turned") fd_Web_turned) (d_Web___init__ : FnOk P w K mg base (L2.CX P w) 2 (He.ma K (He.ga K "Web") "__init__") fd_Web___init__ ["self", "by"] (spD K [true, false] F_Web___init__)) (b_Web___init___2_ : BOk K fd_Web___init__ ["self", "by"] 2 [] [.arg 0, .arg 1]) : FnOk P w K mg base (L2.CX P w) 4 (He.ma K (He.ga K "Web") "turned") fd_Web_turned ["self", "by", "own", "winds", "bonds"] (spD K [false, false, false, false, false] F_Web_turned) :=
  def_ok (N := ["self", "by", "own", "winds", "bonds", "other"]) F (C8.fnScope_by (by decide)) rfl fun cdv A outer s H E W c => by
      have cx := c.toCCx
      have hN : List.Nodup (["self", "by", "own", "winds", "bonds", "other"] : List Str) := by decide
      exact (dss_cons (ds_set 5 hN (dk (ar := ar_Web___init___2_) (n := 1) "Web" cx (fc.f 38) d_Web___init__ (fc.gl' 6) b_Web___init___2_ (dall_pos (dg_val (de_ifExp (dt_cmp op_isN ok_isN (de_var 1) de_non) (de_own (de_chk (de_fld "Web" (fc.f 0) (fc.f 1) (de_var 0)))) (de_own (de_chk (de_var 1)))) dg_nil))))
  (dss_cons (ds_asg (de_callTy0 (cr_list rfl) ok_list (fc.fr' 16) (de0_if (dt_cmp op_isN ok_isN (de_var 2) de_non) (de0_of (de_fld "Web" (fc.f 0) (fc.f 2) (de_var 0))) (de0_of (de_var 2)))) (dg_fld "Web" (pl_var 5) (fc.f 0) (fc.f 2)))
  (dss_cons (ds_asg (de_callTy0 (cr_list rfl) ok_list (fc.fr' 16) (de0_if (dt_cmp op_isN ok_isN (de_var 3) de_non) (de0_of (de_fld "Web" (fc.f 0) (fc.f 3) (de_var 0))) (de0_of (de_var 3)))) (dg_fld "Web" (pl_var 5) (fc.f 0) (fc.f 3)))
  (dss_cons (ds_asg (de_callTy0 (cr_list rfl) ok_list (fc.fr' 16) (de0_if (dt_cmp op_isN ok_isN (de_var 4) de_non) (de0_of (de_fld "Web" (fc.f 0) (fc.f 4) (de_var 0))) (de0_of (de_var 4)))) (dg_fld "Web" (pl_var 5) (fc.f 0) (fc.f 4)))
  (dss_one (ds_ret (de_mv 5)))))))
theorem t_Web_with_moment (fc : FC fa K mg) (F : FunD K "with_moment" "Web.with_moment" (defArgs (inClass (topS 30) 11)) (defBody (inClass (topS 30) 11)) (defScope (inClass (topS 30) 11)) [] [] (He.ma K (He.ga K "Web") "with_moment") fd_Web_with_moment) (d_Web_turned : FnOk P w K mg base (L2.CX P w) 4 (He.ma K (He.ga K "Web") "turned") fd_Web_turned ["self", "by", "own", "winds", "bonds"] (spD K [false, false, false, false, false] F_Web_turned)) (d_Web_need_new : FnOk P w K mg base (L2.CX P w) 2 (He.ma K (He.ga K "Web") "need_new") fd_Web_need_new ["self", "name"] (spD K [false, false] F_Web_need_new)) (b_Web_turned_1_own : BOk K fd_Web_turned ["self", "by", "own", "winds", "bonds"] 1 ["own"] [.arg 0, .dfl (.non), .arg 1, .dfl (.non), .dfl (.non)]) (b_Web_need_new_2_ : BOk K fd_Web_need_new ["self", "name"] 2 [] [.arg 0, .arg 1]) : FnOk P w K mg base (L2.CX P w) 5 (He.ma K (He.ga K "Web") "with_moment") fd_Web_with_moment ["self", "name"] (spD K [false, false] F_Web_with_moment) :=
  def_ok (N := ["self", "name"]) F (C8.fnScope_by (by decide)) rfl fun cdv A outer s H E W c => by
      have cx := c.toCCx
      have hN : List.Nodup (["self", "name"] : List Str) := by decide
      exact (dss_cons (ds_expr (dm "Web" cx (de_var 0) (fc.f 0) (fc.f 41) d_Web_need_new b_Web_need_new_2_ (dall_pos (dg_val (de_var 1) dg_nil))))
  (dss_cons (ds_if (dt_cmp op_ge ok_ge (de_callB cr_len ok_len (fc.fr' 13) (da_cons (de_fld "Web" (fc.f 0) (fc.f 2) (de_var 0)) da_nil)) (de_gint (fc.int' 40))) (dss_one ds_never) dss_nil)
  (dss_one (ds_ret (dm "Web" cx (de_var 0) (fc.f 0) (fc.f 39) d_Web_turned b_Web_turned_1_own (dall_kw (dkw_val (de_bin op_add4 ok_add (de_fld "Web" (fc.f 0) (fc.f 2) (de_var 0)) (de_lst (da_cons (de_chk (de_var 1)) da_nil))) dkw_nil)))))))
theorem t_need_late (fc : FC fa K mg) (F : FunD K "need_late" "need_late" (defArgs (topS 28)) (defBody (topS 28)) (defScope (topS 28)) [] [] (He.ga K "need_late") fd_need_late) (d_is_within : FnOk P w K mg base (L2.CX P w) 1 (He.ga K "is_within") fd_is_within ["thing", "low", "high"] (spD K [false, false, false] F_is_within)) (kp_is_within : PySem.W.keepIn K (.ref (He.ga K "is_within")) = true) (b_is_within_3_ : BOk K fd_is_within ["thing", "low", "high"] 3 [] [.arg 0, .arg 1, .arg 2]) : FnOk P w K mg base (L2.CX P w) 2 (He.ga K "need_late") fd_need_late ["late"] (spD K [false] F_need_late) :=
  def_ok (N := ["late"]) F (C8.fnScope_by (by decide)) rfl fun cdv A outer s H E W c => by
      have cx := c.toCCx
      have hN : List.Nodup (["late"] : List Str) := by decide
      exact (dss_one (ds_if (DW.dt (dw_and (dt_cmp op_notN ok_notN (de_var 0) de_non) (dw_and1 (dt_not (dt_val (dc cx d_is_within (fc.gl' 10) kp_is_within b_is_within_3_ (dall_pos (dg_val (de_var 0) (dg_val de_int (dg_val (de_gint (fc.int' 42)) dg_nil)))))))))) (dss_one ds_never) dss_nil))
theorem t_need_lengths (fc : FC fa K mg) (F : FunD K "need_lengths" "need_lengths" (defArgs (topS 27)) (defBody (topS 27)) (defScope (topS 27)) [] [] (He.ga K "need_lengths") fd_need_lengths) (d_is_within : FnOk P w K mg base (L2.CX P w) 1 (He.ga K "is_within") fd_is_within ["thing", "low", "high"] (spD K [false, false, false] F_is_within)) (kp_is_within : PySem.W.keepIn K (.ref (He.ga K "is_within")) = true) (b_is_within_3_ : BOk K fd_is_within ["thing", "low", "high"] 3 [] [.arg 0, .arg 1, .arg 2]) : FnOk P w K mg base (L2.CX P w) 2 (He.ga K "need_lengths") fd_need_lengths ["low", "high"] (spD K [false, false] F_need_lengths) :=
  def_ok (N := ["low", "high"]) F (C8.fnScope_by (by decide)) rfl fun cdv A outer s H E W c => by
      have cx := c.toCCx
      have hN : List.Nodup (["low", "high"] : List Str) := by decide
      exact (dss_one (ds_if (DW.dt (dw_or (dt_not (dt_val (dc cx d_is_within (fc.gl' 10) kp_is_within b_is_within_3_ (dall_pos (dg_val (de_var 0) (dg_val de_int (dg_val (de_gint (fc.int' 42)) dg_nil))))))) (dw_or (dt_not (dt_val (dc cx d_is_within (fc.gl' 10) kp_is_within b_is_within_3_ (dall_pos (dg_val (de_var 1) (dg_val de_int (dg_val (de_gint (fc.int' 42)) dg_nil))))))) (dw_or1 (dt_cmp op_gt ok_gt (de_var 0) (de_var 1)))))) (dss_one ds_never) dss_nil))
theorem t_Web_with_span (fc : FC fa K mg) (F : FunD K "with_span" "Web.with_span" (defArgs (inClass (topS 30) 12)) (defBody (inClass (topS 30) 12)) (defScope (inClass (topS 30) 12)) [] [("late", .int 0)] (He.ma K (He.ga K "Web") "with_span") fd_Web_with_span) (d_Web_turned : FnOk P w K mg base (L2.CX P w) 4 (He.ma K (He.ga K "Web") "turned") fd_Web_turned ["self", "by", "own", "winds", "bonds"] (spD K [false, false, false, false, false] F_Web_turned)) (d_need_late : FnOk P w K mg base (L2.CX P w) 2 (He.ga K "need_late") fd_need_late ["late"] (spD K [false] F_need_late)) (kp_need_late : PySem.W.keepIn K (.ref (He.ga K "need_late")) = true) (d_need_lengths : FnOk P w K mg base (L2.CX P w) 2 (He.ga K "need_lengths") fd_need_lengths ["low", "high"] (spD K [false, false] F_need_lengths)) (kp_need_lengths : PySem.W.keepIn K (.ref (He.ga K "need_lengths")) = true) (d_Web_need_new : FnOk P w K mg base (L2.CX P w) 2 (He.ma K (He.ga K "Web") "need_new") fd_Web_need_new ["self", "name"] (spD K [false, false] F_Web_need_new)) (b_Web_turned_1_winds : BOk K fd_Web_turned ["self", "by", "own", "winds", "bonds"] 1 ["winds"] [.arg 0, .dfl (.non), .dfl (.non), .arg 1, .dfl (.non)]) (b_need_late_1_ : BOk K fd_need_late ["late"] 1 [] [.arg 0]) (b_need_lengths_2_ : BOk K fd_need_lengths ["low", "high"] 2 [] [.arg 0, .arg 1]) (b_Web_need_new_2_ : BOk K fd_Web_need_new ["self", "name"] 2 [] [.arg 0, .arg 1]) : FnOk P w K mg base (L2.CX P w) 5 (He.ma K (He.ga K "Web") "with_span") fd_Web_with_span ["self", "end", "begin", "low", "high", "late"] (spD K [false, false, false, false, false, false] F_Web_with_span) :=
  def_ok (N := ["self", "end", "begin", "low", "high", "late"]) F (C8.fnScope_by (by decide)) rfl fun cdv A outer s H E W c => by
      have cx := c.toCCx
      have hN : List.Nodup (["self", "end", "begin", "low", "high", "late"] : List Str) := by decide
      exact (dss_cons (ds_expr (dm "Web" cx (de_var 0) (fc.f 0) (fc.f 41) d_Web_need_new b_Web_need_new_2_ (dall_pos (dg_val (de_var 1) dg_nil))))
  (dss_cons (ds_if (DW.dt (dw_and (dt_cmp (op_neF (unitsE cx)) ok_neF (de_var 2) (de_gstr (fc.str' 27))) (dw_and1 (dt_cmp (op_notInAny (units1 cx)) ok_notInAny (de_var 2) (de_fld "Web" (fc.f 0) (fc.f 2) (de_var 0)))))) (dss_one ds_never) dss_nil)
  (dss_cons (ds_expr (dc cx d_need_lengths (fc.gl' 45) kp_need_lengths b_need_lengths_2_ (dall_pos (dg_val (de_var 3) (dg_val (de_var 4) dg_nil)))))
  (dss_cons (ds_expr (dc cx d_need_late (fc.gl' 44) kp_need_late b_need_late_1_ (dall_pos (dg_val (de_var 5) dg_nil))))
  (dss_cons (ds_if (dt_cmp op_ge ok_ge (de_callB cr_len ok_len (fc.fr' 13) (da_cons (de_fld "Web" (fc.f 0) (fc.f 3) (de_var 0)) da_nil)) (de_gint (fc.int' 43))) (dss_one ds_never) dss_nil)
  (dss_one (ds_ret (dm "Web" cx (de_var 0) (fc.f 0) (fc.f 39) d_Web_turned b_Web_turned_1_winds (dall_kw (dkw_val (de_bin op_add4 ok_add (de_fld "Web" (fc.f 0) (fc.f 3) (de_var 0)) (de_lst (da_cons (de_tup (da_cons (de_chk (de_var 1)) (da_cons (de_chk (de_var 2)) (da_cons (de_chk (de_var 3)) (da_cons (de_chk (de_var 4)) (da_cons (de_chk (de_var 5)) da_nil)))))) da_nil))) dkw_nil))))))))))
theorem t_is_bound (fc : FC fa K mg) (F : FunD K "is_bound" "is_bound" (defArgs (topS 29)) (defBody (topS 29)) (defScope (topS 29)) [] [] (He.ga K "is_bound") fd_is_bound) (d_is_within : FnOk P w K mg base (L2.CX P w) 1 (He.ga K "is_within") fd_is_within ["thing", "low", "high"] (spD K [false, false, false] F_is_within)) (kp_is_within : PySem.W.keepIn K (.ref (He.ga K "is_within")) = true) (b_is_within_3_ : BOk K fd_is_within ["thing", "low", "high"] 3 [] [.arg 0, .arg 1, .arg 2]) : FnOk P w K mg base (L2.CX P w) 2 (He.ga K "is_bound") fd_is_bound ["thing"] (spD K [false] F_is_bound) :=
  def_ok (N := ["thing"]) F (C8.fnScope_by (by decide)) rfl fun cdv A outer s H E W c => by
      have cx := c.toCCx
      have hN : List.Nodup (["thing"] : List Str) := by decide
      exact (dss_one (ds_ret (de_or (de_cmp op_isN ok_isN (de_var 0) de_non) (de_bool1 (dc cx d_is_within (fc.gl' 10) kp_is_within b_is_within_3_ (dall_pos (dg_val (de_var 0) (dg_val (de_un un_neg ok_neg (de_gint (fc.int' 42))) (dg_val (de_gint (fc.int' 42)) dg_nil)))))))))
theorem t_Web_need_tie (fc : FC fa K mg) (F : FunD K "need_tie" "Web.need_tie" (defArgs (inClass (topS 30) 13)) (defBody (inClass (topS 30) 13)) (defScope (inClass (topS 30) 13)) [] [] (He.ma K (He.ga K "Web") "need_tie") fd_Web_need_tie) (d_is_bound : FnOk P w K mg base (L2.CX P w) 2 (He.ga K "is_bound") fd_is_bound ["thing"] (spD K [false] F_is_bound)) (kp_is_bound : PySem.W.keepIn K (.ref (He.ga K "is_bound")) = true) (d_Web_points : FnOk P w K mg base (L2.CX P w) 1 (He.ma K (He.ga K "Web") "points") fd_Web_points ["self"] (spD K [false] F_Web_points)) (b_is_bound_1_ : BOk K fd_is_bound ["thing"] 1 [] [.arg 0]) (b_Web_points_1_ : BOk K fd_Web_points ["self"] 1 [] [.arg 0]) : FnOk P w K mg base (L2.CX P w) 3 (He.ma K (He.ga K "Web") "need_tie") fd_Web_need_tie ["self", "one", "other", "least", "most"] (spD K [false, false, false, false, false] F_Web_need_tie) :=
  def_ok (N := ["self", "one", "other", "least", "most", "name", "good"]) F (C8.fnScope_by (by decide)) rfl fun cdv A outer s H E W c => by
      have cx := c.toCCx
      have hN : List.Nodup (["self", "one", "other", "least", "most", "name", "good"] : List Str) := by decide
      exact (dss_cons (ds_forI c.hp rfl (di_any (de_tup (da_cons (de_chk (de_var 1)) (da_cons (de_chk (de_var 2)) da_nil)))) (dg_name 5 hN) (dss_one (ds_if (dt_cmp (op_notInAny (units1 cx)) ok_notInAny (de_var 5) (dm "Web" cx (de_var 0) (fc.f 0) (fc.f 31) d_Web_points b_Web_points_1_ dall_nil)) (dss_one ds_never) dss_nil)))
  (dss_cons (ds_set 6 hN (de_and (de_cmp (op_neF (unitsE cx)) ok_neF (de_var 1) (de_var 2)) (de_and (dc cx d_is_bound (fc.gl' 47) kp_is_bound b_is_bound_1_ (dall_pos (dg_val (de_var 3) dg_nil))) (de_bool1 (dc cx d_is_bound (fc.gl' 47) kp_is_bound b_is_bound_1_ (dall_pos (dg_val (de_var 4) dg_nil)))))))
  (dss_cons (ds_if (DW.dt (dw_or (dt_not (dt_val (de_var 6))) (dw_or1 (DW.dt (dw_and (dt_cmp op_isN ok_isN (de_var 3) de_non) (dw_and1 (dt_cmp op_isN ok_isN (de_var 4) de_non))))))) (dss_one ds_never) dss_nil)
  (dss_cons (ds_if (DW.dt (dw_and (dt_cmp op_notN ok_notN (de_var 3) de_non) (dw_and (dt_cmp op_notN ok_notN (de_var 4) de_non) (dw_and1 (dt_cmp op_gt ok_gt (de_var 3) (de_var 4)))))) (dss_one ds_never) dss_nil)
  (dss_one (ds_if (dt_cmp op_ge ok_ge (de_callB cr_len ok_len (fc.fr' 13) (da_cons (de_fld "Web" (fc.f 0) (fc.f 4) (de_var 0)) da_nil)) (de_gint (fc.int' 46))) (dss_one ds_never) dss_nil))))))
theorem t_Web_with_tie (fc : FC fa K mg) (F : FunD K "with_tie" "Web.with_tie" (defArgs (inClass (topS 30) 14)) (defBody (inClass (topS 30) 14)) (defScope (inClass (topS 30) 14)) [] [("least", .non), ("most", .non)] (He.ma K (He.ga K "Web") "with_tie") fd_Web_with_tie) (d_Web_turned : FnOk P w K mg base (L2.CX P w) 4 (He.ma K (He.ga K "Web") "turned") fd_Web_turned ["self", "by", "own", "winds", "bonds"] (spD K [false, false, false, false, false] F_Web_turned)) (d_Web_need_tie : FnOk P w K mg base (L2.CX P w) 3 (He.ma K (He.ga K "Web") "need_tie") fd_Web_need_tie ["self", "one", "other", "least", "most"] (spD K [false, false, false, false, false] F_Web_need_tie)) (b_Web_turned_1_bonds : BOk K fd_Web_turned ["self", "by", "own", "winds", "bonds"] 1 ["bonds"] [.arg 0, .dfl (.non), .dfl (.non), .dfl (.non), .arg 1]) (b_Web_need_tie_5_ : BOk K fd_Web_need_tie ["self", "one", "other", "least", "most"] 5 [] [.arg 0, .arg 1, .arg 2, .arg 3, .arg 4]) : FnOk P w K mg base (L2.CX P w) 5 (He.ma K (He.ga K "Web") "with_tie") fd_Web_with_tie ["self", "one", "other", "least", "most"] (spD K [false, false, false, false, false] F_Web_with_tie) :=
  def_ok (N := ["self", "one", "other", "least", "most"]) F (C8.fnScope_by (by decide)) rfl fun cdv A outer s H E W c => by
      have cx := c.toCCx
      have hN : List.Nodup (["self", "one", "other", "least", "most"] : List Str) := by decide
      exact (dss_cons (ds_expr (dm "Web" cx (de_var 0) (fc.f 0) (fc.f 48) d_Web_need_tie b_Web_need_tie_5_ (dall_pos (dg_val (de_var 1) (dg_val (de_var 2) (dg_val (de_var 3) (dg_val (de_var 4) dg_nil)))))))
  (dss_one (ds_ret (dm "Web" cx (de_var 0) (fc.f 0) (fc.f 39) d_Web_turned b_Web_turned_1_bonds (dall_kw (dkw_val (de_bin op_add4 ok_add (de_fld "Web" (fc.f 0) (fc.f 4) (de_var 0)) (de_lst (da_cons (de_tup (da_cons (de_chk (de_var 1)) (da_cons (de_chk (de_var 2)) (da_cons (de_chk (de_var 3)) (da_cons (de_chk (de_var 4)) da_nil))))) da_nil))) dkw_nil))))))
theorem t__law_web (fc : FC fa K mg) (F : FunD K "_law_web" "_law_web" (defArgs (topS 52)) (defBody (topS 52)) (defScope (topS 52)) [] [] (He.ga K "_law_web") fd__law_web) (d_Web_with_tie : FnOk P w K mg base (L2.CX P w) 5 (He.ma K (He.ga K "Web") "with_tie") fd_Web_with_tie ["self", "one", "other", "least", "most"] (spD K [false, false, false, false, false] F_Web_with_tie)) (d_Web_with_span : FnOk P w K mg base (L2.CX P w) 5 (He.ma K (He.ga K "Web") "with_span") fd_Web_with_span ["self", "end", "begin", "low", "high", "late"] (spD K [false, false, false, false, false, false] F_Web_with_span)) (d_Web_with_moment : FnOk P w K mg base (L2.CX P w) 5 (He.ma K (He.ga K "Web") "with_moment") fd_Web_with_moment ["self", "name"] (spD K [false, false] F_Web_with_moment)) (d_Web___init__ : FnOk P w K mg base (L2.CX P w) 2 (He.ma K (He.ga K "Web") "__init__") fd_Web___init__ ["self", "by"] (spD K [true, false] F_Web___init__)) (b_Web_with_tie_3_least_most : BOk K fd_Web_with_tie ["self", "one", "other", "least", "most"] 3 ["least", "most"] [.arg 0, .arg 1, .arg 2, .arg 3, .arg 4]) (b_Web_with_span_5_late : BOk K fd_Web_with_span ["self", "end", "begin", "low", "high", "late"] 5 ["late"] [.arg 0, .arg 1, .arg 2, .arg 3, .arg 4, .arg 5]) (b_Web_with_moment_2_ : BOk K fd_Web_with_moment ["self", "name"] 2 [] [.arg 0, .arg 1]) (b_Web___init___2_ : BOk K fd_Web___init__ ["self", "by"] 2 [] [.arg 0, .arg 1]) : FnOk P w K mg base (L2.CX P w) 6 (He.ga K "_law_web") fd__law_web ["_law_m"] (spD K [false] F__law_web) :=
  def_ok (N := ["_law_m", "_law_web_here", "_law_name", "_law_end", "_law_begin", "_law_low", "_law_high", "_law_hush", "_law_one", "_law_other", "_law_bot", "_law_top"]) F (C8.fnScope_by (by decide)) rfl fun cdv A outer s H E W c => by
      have cx := c.toCCx
      have hN : List.Nodup (["_law_m", "_law_web_here", "_law_name", "_law_end", "_law_begin", "_law_low", "_law_high", "_law_hush", "_law_one", "_law_other", "_law_bot", "_law_top"] : List Str) := by decide
      exact (dss_cons (ds_set 1 hN (dk (ar := ar_Web___init___2_) (n := 1) "Web" cx (fc.f 38) d_Web___init__ (fc.gl' 6) b_Web___init___2_ (dall_pos (dg_val (de_sub (units1 cx) (de_var 0) de_str) dg_nil))))
  (dss_cons (ds_forI c.hp rfl (di_any (de_sub (units1 cx) (de_var 0) de_str)) (dg_name 2 hN) (dss_one (ds_set 1 hN (dm "Web" cx (de_var 1) (fc.f 0) (fc.f 51) d_Web_with_moment b_Web_with_moment_2_ (dall_pos (dg_val (de_var 2) dg_nil))))))
  (dss_cons (ds_forI c.hp rfl (di_any (de_sub (units1 cx) (de_var 0) de_str)) (dg_tup rfl (dgs_cons (dg_name 3 hN) (dgs_cons (dg_name 4 hN) (dgs_cons (dg_name 5 hN) (dgs_cons (dg_name 6 hN) (dgs_cons (dg_name 7 hN) dgs_nil))))) (gsCons_len (gsCons_len (gsCons_len (gsCons_len (gsCons_len gsNil_len)))))) (dss_one (ds_set 1 hN (dm "Web" cx (de_var 1) (fc.f 0) (fc.f 50) d_Web_with_span b_Web_with_span_5_late (dall_both (dg_val (de_var 3) (dg_val (de_var 4) (dg_val (de_var 5) (dg_val (de_var 6) dg_nil)))) (dkw_val (de_var 7) dkw_nil))))))
  (dss_cons (ds_forI c.hp rfl (di_any (de_sub (units1 cx) (de_var 0) de_str)) (dg_tup rfl (dgs_cons (dg_name 8 hN) (dgs_cons (dg_name 9 hN) (dgs_cons (dg_name 10 hN) (dgs_cons (dg_name 11 hN) dgs_nil)))) (gsCons_len (gsCons_len (gsCons_len (gsCons_len gsNil_len))))) (dss_one (ds_set 1 hN (dm "Web" cx (de_var 1) (fc.f 0) (fc.f 49) d_Web_with_tie b_Web_with_tie_3_least_most (dall_both (dg_val (de_var 8) (dg_val (de_var 9) dg_nil)) (dkw_val (de_var 10) (dkw_val (de_var 11) dkw_nil)))))))
  (dss_one (ds_ret (de_mv 1)))))))
theorem t__law_web_deeds (fc : FC fa K mg) (F : FunD K "_law_web_deeds" "_law_web_deeds" (defArgs (topS 58)) (defBody (topS 58)) (defScope (topS 58)) [] [] (He.ga K "_law_web_deeds") fd__law_web_deeds) : FnOk P w K mg base (L2.CX P w) 1 (He.ga K "_law_web_deeds") fd__law_web_deeds ["_law_m"] (spD K [false] F__law_web_deeds) :=
  def_ok (N := ["_law_m", "_law_found", "_law_name", "_law_wind_here", "_law_bond_here"]) F (C8.fnScope_by (by decide)) rfl fun cdv A outer s H E W c => by
      have cx := c.toCCx
      have hN : List.Nodup (["_law_m", "_law_found", "_law_name", "_law_wind_here", "_law_bond_here"] : List Str) := by decide
      exact (dss_cons (ds_set 1 hN (de_bin op_add4 ok_add (de_lst (da_cons (de_tup (da_cons de_str (da_cons (de_chk (de_sub (units1 cx) (de_var 0) de_str)) da_nil))) da_nil)) (de_lc 5 [2] [("_law_name", 2)] rfl hN (di_any (de_sub (units1 cx) (de_var 0) de_str)) (fun s2 H2 C2 cl2 fp2 => (dg_name 2 hN)) (fun s2 H2 C2 cl2 fp2 => dts_nil) (fun s2 H2 C2 cl2 fp2 => (de_tup (da_cons de_str (da_cons (de_chk (de_var 2)) da_nil)))))))
  (dss_cons (ds_set 1 hN (de_bin op_add4 ok_add (de_var 1) (de_lc 5 [3] [("_law_wind_here", 3)] rfl hN (di_any (de_sub (units1 cx) (de_var 0) de_str)) (fun s2 H2 C2 cl2 fp2 => (dg_name 3 hN)) (fun s2 H2 C2 cl2 fp2 => dts_nil) (fun s2 H2 C2 cl2 fp2 => (de_bin op_add4 ok_add (de_tup (da_cons de_str da_nil)) (de_var 3))))))
  (dss_one (ds_ret (de_bin op_add4 ok_add (de_var 1) (de_lc 5 [4] [("_law_bond_here", 4)] rfl hN (di_any (de_sub (units1 cx) (de_var 0) de_str)) (fun s2 H2 C2 cl2 fp2 => (dg_name 4 hN)) (fun s2 H2 C2 cl2 fp2 => dts_nil) (fun s2 H2 C2 cl2 fp2 => (de_bin op_add4 ok_add (de_tup (da_cons de_str da_nil)) (de_var 4)))))))))
theorem t_Web_with_by (fc : FC fa K mg) (F : FunD K "with_by" "Web.with_by" (defArgs (inClass (topS 30) 10)) (defBody (inClass (topS 30) 10)) (defScope (inClass (topS 30) 10)) [] [] (He.ma K (He.ga K "Web") "with_by") fd_Web_with_by) (d_Web_turned : FnOk P w K mg base (L2.CX P w) 4 (He.ma K (He.ga K "Web") "turned") fd_Web_turned ["self", "by", "own", "winds", "bonds"] (spD K [false, false, false, false, false] F_Web_turned)) (d_is_within : FnOk P w K mg base (L2.CX P w) 1 (He.ga K "is_within") fd_is_within ["thing", "low", "high"] (spD K [false, false, false] F_is_within)) (kp_is_within : PySem.W.keepIn K (.ref (He.ga K "is_within")) = true) (b_Web_turned_1_by : BOk K fd_Web_turned ["self", "by", "own", "winds", "bonds"] 1 ["by"] [.arg 0, .arg 1, .dfl (.non), .dfl (.non), .dfl (.non)]) (b_is_within_3_ : BOk K fd_is_within ["thing", "low", "high"] 3 [] [.arg 0, .arg 1, .arg 2]) : FnOk P w K mg base (L2.CX P w) 5 (He.ma K (He.ga K "Web") "with_by") fd_Web_with_by ["self", "by"] (spD K [false, false] F_Web_with_by) :=
  def_ok (N := ["self", "by"]) F (C8.fnScope_by (by decide)) rfl fun cdv A outer s H E W c => by
      have cx := c.toCCx
      have hN : List.Nodup (["self", "by"] : List Str) := by decide
      exact (dss_cons (ds_if (dt_not (dt_val (dc cx d_is_within (fc.gl' 10) kp_is_within b_is_within_3_ (dall_pos (dg_val (de_var 1) (dg_val de_int (dg_val (de_gint (fc.int' 9)) dg_nil))))))) (dss_one ds_never) dss_nil)
  (dss_one (ds_ret (dm "Web" cx (de_var 0) (fc.f 0) (fc.f 39) d_Web_turned b_Web_turned_1_by (dall_kw (dkw_val (de_var 1) dkw_nil))))))
theorem t_Web_without (fc : FC fa K mg) (F : FunD K "without" "Web.without" (defArgs (inClass (topS 30) 15)) (defBody (inClass (topS 30) 15)) (defScope (inClass (topS 30) 15)) [] [] (He.ma K (He.ga K "Web") "without") fd_Web_without) (d_Web_turned : FnOk P w K mg base (L2.CX P w) 4 (He.ma K (He.ga K "Web") "turned") fd_Web_turned ["self", "by", "own", "winds", "bonds"] (spD K [false, false, false, false, false] F_Web_turned)) (d_Web_points : FnOk P w K mg base (L2.CX P w) 1 (He.ma K (He.ga K "Web") "points") fd_Web_points ["self"] (spD K [false] F_Web_points)) (b_Web_turned_1_own_winds : BOk K fd_Web_turned ["self", "by", "own", "winds", "bonds"] 1 ["own", "winds"] [.arg 0, .dfl (.non), .arg 1, .arg 2, .dfl (.non)]) (b_Web_points_1_ : BOk K fd_Web_points ["self"] 1 [] [.arg 0]) : FnOk P w K mg base (L2.CX P w) 5 (He.ma K (He.ga K "Web") "without") fd_Web_without ["self", "name"] (spD K [false, false] F_Web_without) :=
  def_ok (N := ["self", "name", "own", "end", "begin", "rest", "one", "other", "wind"]) F (C8.fnScope_by (by decide)) rfl fun cdv A outer s H E W c => by
      have cx := c.toCCx
      have hN : List.Nodup (["self", "name", "own", "end", "begin", "rest", "one", "other", "wind"] : List Str) := by decide
      exact (dss_cons (ds_if (DW.dt (dw_or (dt_cmp (op_eqF (unitsE cx)) ok_eqF (de_var 1) (de_gstr (fc.str' 27))) (dw_or1 (dt_cmp (op_notInAny (units1 cx)) ok_notInAny (de_var 1) (dm "Web" cx (de_var 0) (fc.f 0) (fc.f 31) d_Web_points b_Web_points_1_ dall_nil))))) (dss_one ds_never) dss_nil)
  (dss_cons (ds_if (dt_cmp (op_inAny (units1 cx)) ok_inAny (de_var 1) (de_lc 9 [3, 4, 5] [("end", 3), ("begin", 4), ("rest", 5)] rfl hN (di_any (de_fld "Web" (fc.f 0) (fc.f 3) (de_var 0))) (fun s2 H2 C2 cl2 fp2 => (dg_star rfl (dgs_cons (dg_name 3 hN) (dgs_cons (dg_name 4 hN) (dgs_star1 (dg_name 5 hN)))))) (fun s2 H2 C2 cl2 fp2 => dts_nil) (fun s2 H2 C2 cl2 fp2 => (de_chk (de_var 4))))) (dss_one ds_never) dss_nil)
  (dss_cons (ds_if (dt_val (de_callB (cr_any rfl) ok_any (fc.fr' 52) (da_cons (de_lc 9 [6, 7, 5] [("one", 6), ("other", 7), ("rest", 5)] rfl hN (di_any (de_fld "Web" (fc.f 0) (fc.f 4) (de_var 0))) (fun s2 H2 C2 cl2 fp2 => (dg_star rfl (dgs_cons (dg_name 6 hN) (dgs_cons (dg_name 7 hN) (dgs_star1 (dg_name 5 hN)))))) (fun s2 H2 C2 cl2 fp2 => dts_nil) (fun s2 H2 C2 cl2 fp2 => (de_cmp (op_inAny (units1 (cxB cx))) ok_inAny (de_var 1) (de_tup (da_cons (de_chk (de_var 6)) (da_cons (de_chk (de_var 7)) da_nil)))))) da_nil))) (dss_one ds_never) dss_nil)
  (dss_cons (ds_setLc 2 9 [6] [("one", 6)] rfl hN (di_any (de_fld "Web" (fc.f 0) (fc.f 2) (de_var 0))) (fun s2 H2 C2 cl2 fp2 => (dg_name 6 hN)) (fun s2 H2 C2 cl2 fp2 => (dts_one (dt_cmp (op_neF (unitsE (cxB cx))) ok_neF (de_var 6) (de_var 1)))) (fun s2 H2 C2 cl2 fp2 => (de_chk (de_var 6))))
  (dss_one (ds_ret (dm "Web" cx (de_var 0) (fc.f 0) (fc.f 39) d_Web_turned b_Web_turned_1_own_winds (dall_kw (dkw_val (de_var 2) (dkw_val (de_lc 9 [8] [("wind", 8)] rfl hN (di_any (de_fld "Web" (fc.f 0) (fc.f 3) (de_var 0))) (fun s2 H2 C2 cl2 fp2 => (dg_name 8 hN)) (fun s2 H2 C2 cl2 fp2 => (dts_one (dt_cmp (op_neF (unitsE (cxB cx))) ok_neF (de_sub (units1 (cxB cx)) (de_var 8) de_int) (de_var 1)))) (fun s2 H2 C2 cl2 fp2 => (de_chk (de_var 8)))) dkw_nil))))))))))
theorem t_Web_without_tie (fc : FC fa K mg) (F : FunD K "without_tie" "Web.without_tie" (defArgs (inClass (topS 30) 16)) (defBody (inClass (topS 30) 16)) (defScope (inClass (topS 30) 16)) [] [] (He.ma K (He.ga K "Web") "without_tie") fd_Web_without_tie) (d_Web_turned : FnOk P w K mg base (L2.CX P w) 4 (He.ma K (He.ga K "Web") "turned") fd_Web_turned ["self", "by", "own", "winds", "bonds"] (spD K [false, false, false, false, false] F_Web_turned)) (d_is_within : FnOk P w K mg base (L2.CX P w) 1 (He.ga K "is_within") fd_is_within ["thing", "low", "high"] (spD K [false, false, false] F_is_within)) (kp_is_within : PySem.W.keepIn K (.ref (He.ga K "is_within")) = true) (b_Web_turned_1_bonds : BOk K fd_Web_turned ["self", "by", "own", "winds", "bonds"] 1 ["bonds"] [.arg 0, .dfl (.non), .dfl (.non), .dfl (.non), .arg 1]) (b_is_within_3_ : BOk K fd_is_within ["thing", "low", "high"] 3 [] [.arg 0, .arg 1, .arg 2]) : FnOk P w K mg base (L2.CX P w) 5 (He.ma K (He.ga K "Web") "without_tie") fd_Web_without_tie ["self", "at"] (spD K [false, false] F_Web_without_tie) :=
  def_ok (N := ["self", "at"]) F (C8.fnScope_by (by decide)) rfl fun cdv A outer s H E W c => by
      have cx := c.toCCx
      have hN : List.Nodup (["self", "at"] : List Str) := by decide
      exact (dss_cons (ds_if (dt_not (dt_val (dc cx d_is_within (fc.gl' 10) kp_is_within b_is_within_3_ (dall_pos (dg_val (de_var 1) (dg_val de_int (dg_val (de_bin op_sub ok_sub (de_callB cr_len ok_len (fc.fr' 13) (da_cons (de_fld "Web" (fc.f 0) (fc.f 4) (de_var 0)) da_nil)) de_int) dg_nil))))))) (dss_one ds_never) dss_nil)
  (dss_one (ds_ret (dm "Web" cx (de_var 0) (fc.f 0) (fc.f 39) d_Web_turned b_Web_turned_1_bonds (dall_kw (dkw_val (de_bin op_add4 ok_add (de_slice (de_fld "Web" (fc.f 0) (fc.f 4) (de_var 0)) do_none (do_some (de_var 1))) (de_slice (de_fld "Web" (fc.f 0) (fc.f 4) (de_var 0)) (do_some (de_bin op_add4 ok_add (de_var 1) de_int)) do_none)) dkw_nil))))))
theorem t_applied (fc : FC fa K mg) (F : FunD K "applied" "applied" (defArgs (topS 41)) (defBody (topS 41)) (defScope (topS 41)) [] [] (He.ga K "applied") fd_applied) (d_Web_without : FnOk P w K mg base (L2.CX P w) 5 (He.ma K (He.ga K "Web") "without") fd_Web_without ["self", "name"] (spD K [false, false] F_Web_without)) (d_Web_without_tie : FnOk P w K mg base (L2.CX P w) 5 (He.ma K (He.ga K "Web") "without_tie") fd_Web_without_tie ["self", "at"] (spD K [false, false] F_Web_without_tie)) (d_Web_with_tie : FnOk P w K mg base (L2.CX P w) 5 (He.ma K (He.ga K "Web") "with_tie") fd_Web_with_tie ["self", "one", "other", "least", "most"] (spD K [false, false, false, false, false] F_Web_with_tie)) (d_Web_with_span : FnOk P w K mg base (L2.CX P w) 5 (He.ma K (He.ga K "Web") "with_span") fd_Web_with_span ["self", "end", "begin", "low", "high", "late"] (spD K [false, false, false, false, false, false] F_Web_with_span)) (d_Web_with_moment : FnOk P w K mg base (L2.CX P w) 5 (He.ma K (He.ga K "Web") "with_moment") fd_Web_with_moment ["self", "name"] (spD K [false, false] F_Web_with_moment)) (d_Web_with_by : FnOk P w K mg base (L2.CX P w) 5 (He.ma K (He.ga K "Web") "with_by") fd_Web_with_by ["self", "by"] (spD K [false, false] F_Web_with_by)) (b_Web_without_2_ : BOk K fd_Web_without ["self", "name"] 2 [] [.arg 0, .arg 1]) (b_Web_without_tie_2_ : BOk K fd_Web_without_tie ["self", "at"] 2 [] [.arg 0, .arg 1]) (b_Web_with_tie_3_least_most : BOk K fd_Web_with_tie ["self", "one", "other", "least", "most"] 3 ["least", "most"] [.arg 0, .arg 1, .arg 2, .arg 3, .arg 4]) (b_Web_with_span_5_late : BOk K fd_Web_with_span ["self", "end", "begin", "low", "high", "late"] 5 ["late"] [.arg 0, .arg 1, .arg 2, .arg 3, .arg 4, .arg 5]) (b_Web_with_moment_2_ : BOk K fd_Web_with_moment ["self", "name"] 2 [] [.arg 0, .arg 1]) (b_Web_with_by_2_ : BOk K fd_Web_with_by ["self", "by"] 2 [] [.arg 0, .arg 1]) : FnOk P w K mg base (L2.CX P w) 6 (He.ga K "applied") fd_applied ["web", "deed"] (spD K [false, false] F_applied) :=
  def_ok (N := ["web", "deed", "word", "rest"]) F (C8.fnScope_by (by decide)) rfl fun cdv A outer s H E W c => by
      have cx := c.toCCx
      have hN : List.Nodup (["web", "deed", "word", "rest"] : List Str) := by decide
      exact (dss_cons (ds_asg (de_var 1) (dg_star rfl (dgs_cons (dg_name 2 hN) (dgs_star1 (dg_name 3 hN)))))
  (dss_cons (ds_if (dt_cmp (op_eqF (unitsE cx)) ok_eqF (de_var 2) de_str) (dss_one (ds_ret (dm "Web" cx (de_var 0) (fc.f 0) (fc.f 55) d_Web_with_by b_Web_with_by_2_ (dall_pos (dg_val (de_sub (units1 cx) (de_var 3) de_int) dg_nil))))) dss_nil)
  (dss_cons (ds_if (dt_cmp (op_eqF (unitsE cx)) ok_eqF (de_var 2) de_str) (dss_one (ds_ret (dm "Web" cx (de_var 0) (fc.f 0) (fc.f 51) d_Web_with_moment b_Web_with_moment_2_ (dall_pos (dg_val (de_sub (units1 cx) (de_var 3) de_int) dg_nil))))) dss_nil)
  (dss_cons (ds_if (dt_cmp (op_eqF (unitsE cx)) ok_eqF (de_var 2) de_str) (dss_one (ds_ret (dm "Web" cx (de_var 0) (fc.f 0) (fc.f 50) d_Web_with_span b_Web_with_span_5_late (dall_both (dg_val (de_sub (units1 cx) (de_var 3) de_int) (dg_val (de_sub (units1 cx) (de_var 3) de_int) (dg_val (de_sub (units1 cx) (de_var 3) de_int) (dg_val (de_sub (units1 cx) (de_var 3) de_int) dg_nil)))) (dkw_val (de_sub (units1 cx) (de_var 3) de_int) dkw_nil))))) dss_nil)
  (dss_cons (ds_if (dt_cmp (op_eqF (unitsE cx)) ok_eqF (de_var 2) de_str) (dss_one (ds_ret (dm "Web" cx (de_var 0) (fc.f 0) (fc.f 49) d_Web_with_tie b_Web_with_tie_3_least_most (dall_both (dg_val (de_sub (units1 cx) (de_var 3) de_int) (dg_val (de_sub (units1 cx) (de_var 3) de_int) dg_nil)) (dkw_val (de_sub (units1 cx) (de_var 3) de_int) (dkw_val (de_sub (units1 cx) (de_var 3) de_int) dkw_nil)))))) dss_nil)
  (dss_one (ds_ret (de_ifExp (dt_cmp (op_eqF (unitsE cx)) ok_eqF (de_var 2) de_str) (dm "Web" cx (de_var 0) (fc.f 0) (fc.f 53) d_Web_without b_Web_without_2_ (dall_pos (dg_val (de_sub (units1 cx) (de_var 3) de_int) dg_nil))) (dm "Web" cx (de_var 0) (fc.f 0) (fc.f 54) d_Web_without_tie b_Web_without_tie_2_ (dall_pos (dg_val (de_sub (units1 cx) (de_var 3) de_int) dg_nil)))))))))))
theorem t_name_of (fc : FC fa K mg) (F : FunD K "name_of" "name_of" (defArgs (topS 38)) (defBody (topS 38)) (defScope (topS 38)) [] [] (He.ga K "name_of") fd_name_of) (d_is_name : FnOk P w K mg base (L2.CX P w) 1 (He.ga K "is_name") fd_is_name ["thing"] (spD K [false] F_is_name)) (kp_is_name : PySem.W.keepIn K (.ref (He.ga K "is_name")) = true) (b_is_name_1_ : BOk K fd_is_name ["thing"] 1 [] [.arg 0]) : FnOk P w K mg base (L2.CX P w) 2 (He.ga K "name_of") fd_name_of ["word"] (spD K [false] F_name_of) :=
  def_ok (N := ["word"]) F (C8.fnScope_by (by decide)) rfl fun cdv A outer s H E W c => by
      have cx := c.toCCx
      have hN : List.Nodup (["word"] : List Str) := by decide
      exact (dss_cons (ds_if (dt_not (dt_val (dc cx d_is_name (fc.gl' 37) kp_is_name b_is_name_1_ (dall_pos (dg_val (de_var 0) dg_nil))))) (dss_one ds_never) dss_nil)
  (dss_one (ds_ret (de_mv 0))))
theorem t_number_of (fc : FC fa K mg) (F : FunD K "number_of" "number_of" (defArgs (topS 37)) (defBody (topS 37)) (defScope (topS 37)) [] [] (He.ga K "number_of") fd_number_of) : FnOk P w K mg base (L2.CX P w) 1 (He.ga K "number_of") fd_number_of ["word"] (spD K [false] F_number_of) :=
  def_ok (N := ["word", "figures", "sign"]) F (C8.fnScope_by (by decide)) rfl fun cdv A outer s H E W c => by
      have cx := c.toCCx
      have hN : List.Nodup (["word", "figures", "sign"] : List Str) := by decide
      exact (dss_cons (ds_set 1 hN (de_ifExp (dt_val (de_starts (de_var 0) de_str)) (de_slice (de_var 0) (do_some de_int) do_none) (de_own (de_chk (de_var 0)))))
  (dss_cons (ds_if (DW.dt (dw_or (dt_not (dt_chain op_le op_le ok_le ok_le de_int (de_callB cr_len ok_len (fc.fr' 13) (da_cons (de_var 1) da_nil)) (de_gint (fc.int' 57)))) (dw_or1 (dt_not (dt_val (de_callB (cr_all rfl) ok_all (fc.fr' 24) (da_cons (de_lc 3 [2] [("sign", 2)] rfl hN (di_any (de_var 1)) (fun s2 H2 C2 cl2 fp2 => (dg_name 2 hN)) (fun s2 H2 C2 cl2 fp2 => dts_nil) (fun s2 H2 C2 cl2 fp2 => (de_cmp (op_inAny (units1 (cxB cx))) ok_inAny (de_var 2) (de_gstr (fc.str' 56))))) da_nil))))))) (dss_one ds_never) dss_nil)
  (dss_cons (ds_if (DW.dt (dw_and (dt_cmp (op_eqF (unitsE cx)) ok_eqF (de_sub (units1 cx) (de_var 1) de_int) de_str) (dw_and1 (dt_cmp (op_neF (unitsE cx)) ok_neF (de_var 0) de_str)))) (dss_one ds_never) dss_nil)
  (dss_one (ds_ret (de_callTy call_int_str ok_intS (fc.fr' 8) (da_cons (de_var 0) da_nil)))))))
theorem t_thing_of (fc : FC fa K mg) (F : FunD K "thing_of" "thing_of" (defArgs (topS 39)) (defBody (topS 39)) (defScope (topS 39)) [] [] (He.ga K "thing_of") fd_thing_of) (d_number_of : FnOk P w K mg base (L2.CX P w) 1 (He.ga K "number_of") fd_number_of ["word"] (spD K [false] F_number_of)) (kp_number_of : PySem.W.keepIn K (.ref (He.ga K "number_of")) = true) (d_name_of : FnOk P w K mg base (L2.CX P w) 2 (He.ga K "name_of") fd_name_of ["word"] (spD K [false] F_name_of)) (kp_name_of : PySem.W.keepIn K (.ref (He.ga K "name_of")) = true) (b_number_of_1_ : BOk K fd_number_of ["word"] 1 [] [.arg 0]) (b_name_of_1_ : BOk K fd_name_of ["word"] 1 [] [.arg 0]) : FnOk P w K mg base (L2.CX P w) 3 (He.ga K "thing_of") fd_thing_of ["form", "word"] (spD K [false, false] F_thing_of) :=
  def_ok (N := ["form", "word"]) F (C8.fnScope_by (by decide)) rfl fun cdv A outer s H E W c => by
      have cx := c.toCCx
      have hN : List.Nodup (["form", "word"] : List Str) := by decide
      exact (dss_cons (ds_if (dt_cmp (op_eqF (unitsE cx)) ok_eqF (de_var 0) de_str) (dss_one (ds_ret (dc cx d_name_of (fc.gl' 59) kp_name_of b_name_of_1_ (dall_pos (dg_val (de_var 1) dg_nil))))) dss_nil)
  (dss_cons (ds_if (DW.dt (dw_and (dt_cmp (op_eqF (unitsE cx)) ok_eqF (de_var 0) de_str) (dw_and1 (dt_cmp (op_eqF (unitsE cx)) ok_eqF (de_var 1) de_str)))) (dss_one (ds_ret (de_own de_non))) dss_nil)
  (dss_one (ds_ret (dc cx d_number_of (fc.gl' 58) kp_number_of b_number_of_1_ (dall_pos (dg_val (de_var 1) dg_nil)))))))
theorem t_read_deed (fc : FC fa K mg) (k_FORMS : ∃ es n, L2.KDict K w (He.ga K "FORMS") es n) (sv_FORMS : tabSV K "FORMS" gs_FORMS = true) (F : FunD K "read_deed" "read_deed" (defArgs (topS 40)) (defBody (topS 40)) (defScope (topS 40)) [] [] (He.ga K "read_deed") fd_read_deed) (d_thing_of : FnOk P w K mg base (L2.CX P w) 3 (He.ga K "thing_of") fd_thing_of ["form", "word"] (spD K [false, false] F_thing_of)) (kp_thing_of : PySem.W.keepIn K (.ref (He.ga K "thing_of")) = true) (b_thing_of_2_ : BOk K fd_thing_of ["form", "word"] 2 [] [.arg 0, .arg 1]) : FnOk P w K mg base (L2.CX P w) 4 (He.ga K "read_deed") fd_read_deed ["line"] (spD K [false] F_read_deed) :=
  def_ok (N := ["line", "word", "words", "form", "sign", "one"]) F (C8.fnScope_by (by decide)) rfl fun cdv A outer s H E W c => by
      have cx := c.toCCx
      have hN : List.Nodup (["line", "word", "words", "form", "sign", "one"] : List Str) := by decide
      exact (dss_cons (ds_asg (de_split (de_var 0) de_str) (dg_starS rfl (dgs_cons (dg_name 1 hN) (dgs_star1 (dg_name 2 hN)))))
  (dss_cons (ds_set 3 hN (de_tabget "FORMS" gs_FORMS k_FORMS sv_FORMS (fc.gl' 62) (de_var 1) de_str))
  (dss_cons (ds_if (DW.dt (dw_or (dt_cmp (op_eqF (unitsE cx)) ok_eqF (de_var 3) de_str) (dw_or1 (dt_cmp (op_neF (unitsE cx)) ok_neF (de_callB cr_len ok_len (fc.fr' 13) (da_cons (de_var 3) da_nil)) (de_callB cr_len ok_len (fc.fr' 13) (da_cons (de_var 2) da_nil)))))) (dss_one ds_never) dss_nil)
  (dss_one (ds_ret (de_callTy call_tuple_of ok_tuple (fc.fr' 25) (da_cons (de_bin op_add4 ok_add (de_lst (da_cons (de_chk (de_var 1)) da_nil)) (de_lc 6 [4, 5] [("sign", 4), ("one", 5)] rfl hN (di_zs rfl (fc.fr' 60) (da_cons (de_var 3) (da_cons (de_var 2) da_nil))) (fun s2 H2 C2 cl2 fp2 => (dg_tup rfl (dgs_cons (dg_name 4 hN) (dgs_cons (dg_name 5 hN) dgs_nil)) (gsCons_len (gsCons_len gsNil_len)))) (fun s2 H2 C2 cl2 fp2 => dts_nil) (fun s2 H2 C2 cl2 fp2 => (dc (cxB cx) d_thing_of (fc.gl' 61) kp_thing_of b_thing_of_2_ (dall_pos (dg_val (de_var 4) (dg_val (de_var 5) dg_nil))))))) da_nil)))))))
theorem t_read_web (fc : FC fa K mg) (F : FunD K "read_web" "read_web" (defArgs (topS 43)) (defBody (topS 43)) (defScope (topS 43)) [] [] (He.ga K "read_web") fd_read_web) (d_applied : FnOk P w K mg base (L2.CX P w) 6 (He.ga K "applied") fd_applied ["web", "deed"] (spD K [false, false] F_applied)) (kp_applied : PySem.W.keepIn K (.ref (He.ga K "applied")) = true) (d_read_deed : FnOk P w K mg base (L2.CX P w) 4 (He.ga K "read_deed") fd_read_deed ["line"] (spD K [false] F_read_deed)) (kp_read_deed : PySem.W.keepIn K (.ref (He.ga K "read_deed")) = true) (d_Web___init__ : FnOk P w K mg base (L2.CX P w) 2 (He.ma K (He.ga K "Web") "__init__") fd_Web___init__ ["self", "by"] (spD K [true, false] F_Web___init__)) (b_applied_2_ : BOk K fd_applied ["web", "deed"] 2 [] [.arg 0, .arg 1]) (b_read_deed_1_ : BOk K fd_read_deed ["line"] 1 [] [.arg 0]) (b_Web___init___1_ : BOk K fd_Web___init__ ["self", "by"] 1 [] [.arg 0, .dfl (.int 100)]) : FnOk P w K mg base (L2.CX P w) 7 (He.ga K "read_web") fd_read_web ["text"] (spD K [false] F_read_web) :=
  def_ok (N := ["text", "web", "stage", "row", "line", "deed", "e"]) F (C8.fnScope_by (by decide)) rfl fun cdv A outer s H E W c => by
      have cx := c.toCCx
      have hN : List.Nodup (["text", "web", "stage", "row", "line", "deed", "e"] : List Str) := by decide
      exact (dss_cons (ds_set 1 hN (dk (ar := ar_Web___init___1_) (n := 0) "Web" cx (fc.f 38) d_Web___init__ (fc.gl' 6) b_Web___init___1_ dall_nil))
  (dss_cons (ds_set 2 hN (de_lst (da_cons de_str (da_cons de_str (da_cons de_str (da_cons de_str da_nil))))))
  (dss_cons (ds_forI c.hp rfl (di_enum rfl (fc.fr' 65) (da_cons (de_split (de_var 0) de_str) da_nil)) (dg_tup rfl (dgs_cons (dg_name 3 hN) (dgs_cons (dg_name 4 hN) dgs_nil)) (gsCons_len (gsCons_len gsNil_len))) (dss_cons (ds_tryN c (fun W' c => have cx := c.toCCx; (dss_cons (ds_set 5 hN (dc cx d_read_deed (fc.gl' 64) kp_read_deed b_read_deed_1_ (dall_pos (dg_val (de_var 4) dg_nil))))
  (dss_one (ds_set 1 hN (dc cx d_applied (fc.gl' 63) kp_applied b_applied_2_ (dall_pos (dg_val (de_var 1) (dg_val (de_var 5) dg_nil)))))))))
  (dss_cons (ds_if (DW.dt (dw_or (dt_cmp (op_notInAny (units1 cx)) ok_notInAny (de_sub (units1 cx) (de_var 5) de_int) (de_var 2)) (dw_or1 (dt_cmp (op_neF (unitsE cx)) ok_neF (de_cmp (op_eqF (unitsE cx)) ok_eqF (de_sub (units1 cx) (de_var 5) de_int) de_str) (de_cmp (op_eqF (unitsE cx)) ok_eqF (de_var 3) de_int))))) (dss_one ds_never) dss_nil)
  (dss_one (ds_set 2 hN (de_slice (de_var 2) (do_some (de_idx (de_var 2) (da_cons (de_sub (units1 cx) (de_var 5) de_int) da_nil))) do_none))))))
  (dss_one (ds_ret (de_mv 1))))))
theorem t_shown (fc : FC fa K mg) (F : FunD K "shown" "shown" (defArgs (topS 35)) (defBody (topS 35)) (defScope (topS 35)) [] [] (He.ga K "shown") fd_shown) : FnOk P w K mg base (L2.CX P w) 1 (He.ga K "shown") fd_shown ["thing"] (spD K [false] F_shown) :=
  def_ok (N := ["thing"]) F (C8.fnScope_by (by decide)) rfl fun cdv A outer s H E W c => by
      have cx := c.toCCx
      have hN : List.Nodup (["thing"] : List Str) := by decide
      exact (dss_one (ds_ret (de_ifExp (dt_cmp op_isN ok_isN (de_var 0) de_non) (de_own de_str) (de_callTy cr_str ok_str (fc.fr' 11) (da_cons (de_var 0) da_nil)))))
theorem t_write_deed (fc : FC fa K mg) (F : FunD K "write_deed" "write_deed" (defArgs (topS 36)) (defBody (topS 36)) (defScope (topS 36)) [] [] (He.ga K "write_deed") fd_write_deed) (d_shown : FnOk P w K mg base (L2.CX P w) 1 (He.ga K "shown") fd_shown ["thing"] (spD K [false] F_shown)) (kp_shown : PySem.W.keepIn K (.ref (He.ga K "shown")) = true) (b_shown_1_ : BOk K fd_shown ["thing"] 1 [] [.arg 0]) : FnOk P w K mg base (L2.CX P w) 2 (He.ga K "write_deed") fd_write_deed ["deed"] (spD K [false] F_write_deed) :=
  def_ok (N := ["deed", "thing"]) F (C8.fnScope_by (by decide)) rfl fun cdv A outer s H E W c => by
      have cx := c.toCCx
      have hN : List.Nodup (["deed", "thing"] : List Str) := by decide
      exact (dss_one (ds_ret (de_join de_str (de_lc 2 [1] [("thing", 1)] rfl hN (di_any (de_var 0)) (fun s2 H2 C2 cl2 fp2 => (dg_name 1 hN)) (fun s2 H2 C2 cl2 fp2 => dts_nil) (fun s2 H2 C2 cl2 fp2 => (dc (cxB cx) d_shown (fc.gl' 66) kp_shown b_shown_1_ (dall_pos (dg_val (de_var 1) dg_nil))))))))
theorem t_write_web (fc : FC fa K mg) (F : FunD K "write_web" "write_web" (defArgs (topS 42)) (defBody (topS 42)) (defScope (topS 42)) [] [] (He.ga K "write_web") fd_write_web) (d_write_deed : FnOk P w K mg base (L2.CX P w) 2 (He.ga K "write_deed") fd_write_deed ["deed"] (spD K [false] F_write_deed)) (kp_write_deed : PySem.W.keepIn K (.ref (He.ga K "write_deed")) = true) (d_Web_spans : FnOk P w K mg base (L2.CX P w) 1 (He.ma K (He.ga K "Web") "spans") fd_Web_spans ["self"] (spD K [false] F_Web_spans)) (d_Web_ties : FnOk P w K mg base (L2.CX P w) 1 (He.ma K (He.ga K "Web") "ties") fd_Web_ties ["self"] (spD K [false] F_Web_ties)) (d_Web_moments : FnOk P w K mg base (L2.CX P w) 1 (He.ma K (He.ga K "Web") "moments") fd_Web_moments ["self"] (spD K [false] F_Web_moments)) (b_write_deed_1_ : BOk K fd_write_deed ["deed"] 1 [] [.arg 0]) (b_Web_spans_1_ : BOk K fd_Web_spans ["self"] 1 [] [.arg 0]) (b_Web_ties_1_ : BOk K fd_Web_ties ["self"] 1 [] [.arg 0]) (b_Web_moments_1_ : BOk K fd_Web_moments ["self"] 1 [] [.arg 0]) : FnOk P w K mg base (L2.CX P w) 3 (He.ga K "write_web") fd_write_web ["web"] (spD K [false] F_write_web) :=
  def_ok (N := ["web", "rows", "name", "span", "tie", "row"]) F (C8.fnScope_by (by decide)) rfl fun cdv A outer s H E W c => by
      have cx := c.toCCx
      have hN : List.Nodup (["web", "rows", "name", "span", "tie", "row"] : List Str) := by decide
      exact (dss_cons (ds_set 1 hN (de_bin op_add4 ok_add (de_lst (da_cons (de_tup (da_cons de_str (da_cons (de_chk (de_fld "Web" (fc.f 0) (fc.f 1) (de_var 0))) da_nil))) da_nil)) (de_lc 6 [2] [("name", 2)] rfl hN (di_any (dm "Web" cx (de_var 0) (fc.f 0) (fc.f 33) d_Web_moments b_Web_moments_1_ dall_nil)) (fun s2 H2 C2 cl2 fp2 => (dg_name 2 hN)) (fun s2 H2 C2 cl2 fp2 => dts_nil) (fun s2 H2 C2 cl2 fp2 => (de_tup (da_cons de_str (da_cons (de_chk (de_var 2)) da_nil)))))))
  (dss_cons (ds_set 1 hN (de_bin op_add4 ok_add (de_bin op_add4 ok_add (de_var 1) (de_lc 6 [3] [("span", 3)] rfl hN (di_any (dm "Web" cx (de_var 0) (fc.f 0) (fc.f 34) d_Web_spans b_Web_spans_1_ dall_nil)) (fun s2 H2 C2 cl2 fp2 => (dg_name 3 hN)) (fun s2 H2 C2 cl2 fp2 => dts_nil) (fun s2 H2 C2 cl2 fp2 => (de_bin op_add4 ok_add (de_tup (da_cons de_str da_nil)) (de_var 3))))) (de_lc 6 [4] [("tie", 4)] rfl hN (di_any (dm "Web" cx (de_var 0) (fc.f 0) (fc.f 30) d_Web_ties b_Web_ties_1_ dall_nil)) (fun s2 H2 C2 cl2 fp2 => (dg_name 4 hN)) (fun s2 H2 C2 cl2 fp2 => dts_nil) (fun s2 H2 C2 cl2 fp2 => (de_bin op_add4 ok_add (de_tup (da_cons de_str da_nil)) (de_var 4))))))
  (dss_one (ds_ret (de_join de_str (de_lc 6 [5] [("row", 5)] rfl hN (di_any (de_var 1)) (fun s2 H2 C2 cl2 fp2 => (dg_name 5 hN)) (fun s2 H2 C2 cl2 fp2 => dts_nil) (fun s2 H2 C2 cl2 fp2 => (dc (cxB cx) d_write_deed (fc.gl' 67) kp_write_deed b_write_deed_1_ (dall_pos (dg_val (de_var 5) dg_nil))))))))))
theorem t_law (fc : FC fa K mg) (F : FunD K "law" "law" (defArgs (topS 59)) (defBody (topS 59)) (defScope (topS 59)) [] [] (He.ga K "law") fd_law) (d_Web___eq__ : FnOk P w K mg base (L2.CX P w) 1 (He.ma K (He.ga K "Web") "__eq__") fd_Web___eq__ ["self", "other"] (spD K [false, false] F_Web___eq__)) (d_read_web : FnOk P w K mg base (L2.CX P w) 7 (He.ga K "read_web") fd_read_web ["text"] (spD K [false] F_read_web)) (kp_read_web : PySem.W.keepIn K (.ref (He.ga K "read_web")) = true) (d_Web___init__ : FnOk P w K mg base (L2.CX P w) 2 (He.ma K (He.ga K "Web") "__init__") fd_Web___init__ ["self", "by"] (spD K [true, false] F_Web___init__)) (d_write_web : FnOk P w K mg base (L2.CX P w) 3 (He.ga K "write_web") fd_write_web ["web"] (spD K [false] F_write_web)) (kp_write_web : PySem.W.keepIn K (.ref (He.ga K "write_web")) = true) (d__law_stands : FnOk P w K mg base (L2.CX P w) 10 (He.ga K "_law_stands") fd__law_stands ["_law_web_here", "_law_m"] (spD K [false, false] F__law_stands)) (kp__law_stands : PySem.W.keepIn K (.ref (He.ga K "_law_stands")) = true) (d__law_same : FnOk P w K mg base (L2.CX P w) 9 (He.ga K "_law_same") fd__law_same ["_law_found", "_law_due"] (spD K [false, false] F__law_same)) (kp__law_same : PySem.W.keepIn K (.ref (He.ga K "_law_same")) = true) (d__law_web_deeds : FnOk P w K mg base (L2.CX P w) 1 (He.ga K "_law_web_deeds") fd__law_web_deeds ["_law_m"] (spD K [false] F__law_web_deeds)) (kp__law_web_deeds : PySem.W.keepIn K (.ref (He.ga K "_law_web_deeds")) = true) (d__law_deed_line : FnOk P w K mg base (L2.CX P w) 1 (He.ga K "_law_deed_line") fd__law_deed_line ["_law_deed"] (spD K [false] F__law_deed_line)) (kp__law_deed_line : PySem.W.keepIn K (.ref (He.ga K "_law_deed_line")) = true) (d__law_web : FnOk P w K mg base (L2.CX P w) 6 (He.ga K "_law_web") fd__law_web ["_law_m"] (spD K [false] F__law_web)) (kp__law_web : PySem.W.keepIn K (.ref (He.ga K "_law_web")) = true) (d__law_drawn : FnOk P w K mg base (L2.CX P w) 4 (He.ga K "_law_drawn") fd__law_drawn ["_law_flow_here", "_law_own", "_law_winds", "_law_bonds", "_law_far", "_law_last"] (spD K [true, false, false, false, false, false] F__law_drawn)) (kp__law_drawn : PySem.W.keepIn K (.ref (He.ga K "_law_drawn")) = true) (d__law_draw : FnOk P w K mg base (L2.CX P w) 1 (He.ga K "_law_draw") fd__law_draw ["_law_flow_here", "_law_size"] (spD K [true, false] F__law_draw)) (kp__law_draw : PySem.W.keepIn K (.ref (He.ga K "_law_draw")) = true) (d__law_pick : FnOk P w K mg base (L2.CX P w) 2 (He.ga K "_law_pick") fd__law_pick ["_law_flow_here", "_law_row"] (spD K [true, false] F__law_pick)) (kp__law_pick : PySem.W.keepIn K (.ref (He.ga K "_law_pick")) = true) (d__law_flow : FnOk P w K mg base (L2.CX P w) 1 (He.ga K "_law_flow") fd__law_flow ["_law_script"] (spD K [false] F__law_flow)) (kp__law_flow : PySem.W.keepIn K (.ref (He.ga K "_law_flow")) = true) (b_Web___eq___2_ : BOk K fd_Web___eq__ ["self", "other"] 2 [] [.arg 0, .arg 1]) (b_read_web_1_ : BOk K fd_read_web ["text"] 1 [] [.arg 0]) (b_Web___init___2_ : BOk K fd_Web___init__ ["self", "by"] 2 [] [.arg 0, .arg 1]) (b_write_web_1_ : BOk K fd_write_web ["web"] 1 [] [.arg 0]) (b_Web___init___1_by : BOk K fd_Web___init__ ["self", "by"] 1 ["by"] [.arg 0, .arg 1]) (b__law_stands_2_ : BOk K fd__law_stands ["_law_web_here", "_law_m"] 2 [] [.arg 0, .arg 1]) (b__law_same_2_ : BOk K fd__law_same ["_law_found", "_law_due"] 2 [] [.arg 0, .arg 1]) (b__law_web_deeds_1_ : BOk K fd__law_web_deeds ["_law_m"] 1 [] [.arg 0]) (b__law_deed_line_1_ : BOk K fd__law_deed_line ["_law_deed"] 1 [] [.arg 0]) (b__law_web_1_ : BOk K fd__law_web ["_law_m"] 1 [] [.arg 0]) (b__law_drawn_6_ : BOk K fd__law_drawn ["_law_flow_here", "_law_own", "_law_winds", "_law_bonds", "_law_far", "_law_last"] 6 [] [.arg 0, .arg 1, .arg 2, .arg 3, .arg 4, .arg 5]) (b__law_draw_2_ : BOk K fd__law_draw ["_law_flow_here", "_law_size"] 2 [] [.arg 0, .arg 1]) (b__law_pick_2_ : BOk K fd__law_pick ["_law_flow_here", "_law_row"] 2 [] [.arg 0, .arg 1]) (b__law_flow_1_ : BOk K fd__law_flow ["_law_script"] 1 [] [.arg 0]) : FnOk P w K mg base (L2.CX P w) 11 (He.ga K "law") fd_law ["_law_script"] (spD K [false] F_law) :=
  def_ok (N := ["_law_script", "_law_flow_here", "_law_own", "_law_winds", "_law_bonds", "_law_m", "_law_web_here", "_law_text", "_law_found", "_law_deed"]) F (C8.fnScope_by (by decide)) rfl fun cdv A outer s H E W c => by
      have cx := c.toCCx
      have hN : List.Nodup (["_law_script", "_law_flow_here", "_law_own", "_law_winds", "_law_bonds", "_law_m", "_law_web_here", "_law_text", "_law_found", "_law_deed"] : List Str) := by decide
      exact (dss_cons (ds_set 1 hN (dc cx d__law_flow (fc.gl' 76) kp__law_flow b__law_flow_1_ (dall_pos (dg_val (de_var 0) dg_nil))))
  (dss_cons (ds_par2 2 3 rfl hN (da_cons (de_bin op_add4 ok_add de_int (dc cx d__law_draw (fc.gl' 14) kp__law_draw b__law_draw_2_ (dall_pos (dg_slot 1 (dg_val de_int dg_nil)))) (hp := fun _ _ h => by cases h)) (da_cons (dc cx d__law_draw (fc.gl' 14) kp__law_draw b__law_draw_2_ (dall_pos (dg_slot 1 (dg_val de_int dg_nil)))) da_nil) (hp := fun _ _ h => by cases h)))
  (dss_cons (ds_set 4 hN (dc cx d__law_pick (fc.gl' 15) kp__law_pick b__law_pick_2_ (dall_pos (dg_slot 1 (dg_val (de_lst (da_cons de_int (da_cons de_int (da_cons de_int (da_cons (dc cx d__law_draw (fc.gl' 14) kp__law_draw b__law_draw_2_ (dall_pos (dg_slot 1 (dg_val de_int dg_nil)))) da_nil) (hp := fun _ _ h => by cases h)) (hp := fun _ _ h => by cases h)) (hp := fun _ _ h => by cases h))) dg_nil)))))
  (dss_cons (ds_set 5 hN (dc cx d__law_drawn (fc.gl' 75) kp__law_drawn b__law_drawn_6_ (dall_pos (dg_slot 1 (dg_val (de_chk (de_var 2)) (dg_val (de_chk (de_var 3)) (dg_val (de_fz 4) (dg_val (de_bin op_add4 ok_add de_int (dc cx d__law_draw (fc.gl' 14) kp__law_draw b__law_draw_2_ (dall_pos (dg_slot 1 (dg_val de_int dg_nil)))) (hp := fun _ _ h => by cases h)) (dg_val (de_bin op_add4 ok_add de_int (dc cx d__law_draw (fc.gl' 14) kp__law_draw b__law_draw_2_ (dall_pos (dg_slot 1 (dg_val de_int dg_nil)))) (hp := fun _ _ h => by cases h)) dg_nil) (hp := fun _ _ h => by cases h)) (hp := fun _ _ h => by cases h)) (hp := fun _ _ h => by cases h)) (hp := fun _ _ h => by cases h))))))
  (dss_cons (ds_set 6 hN (dc cx d__law_web (fc.gl' 74) kp__law_web b__law_web_1_ (dall_pos (dg_val (de_var 5) dg_nil))))
  (dss_cons (ds_set 7 hN (de_join de_str (de_lc 10 [9] [("_law_deed", 9)] rfl hN (di_any (dc cx d__law_web_deeds (fc.gl' 72) kp__law_web_deeds b__law_web_deeds_1_ (dall_pos (dg_val (de_var 5) dg_nil)))) (fun s2 H2 C2 cl2 fp2 => (dg_name 9 hN)) (fun s2 H2 C2 cl2 fp2 => dts_nil) (fun s2 H2 C2 cl2 fp2 => (dc (cxB cx) d__law_deed_line (fc.gl' 73) kp__law_deed_line b__law_deed_line_1_ (dall_pos (dg_val (de_var 9) dg_nil)))))))
  (dss_cons (ds_if (dt_not (dt_val (dc cx d__law_same (fc.gl' 23) kp__law_same b__law_same_2_ (dall_pos (dg_val (dc cx d_write_web (fc.gl' 70) kp_write_web b_write_web_1_ (dall_pos (dg_val (de_var 6) dg_nil))) (dg_val (de_var 7) dg_nil)))))) (dss_one (ds_ret (de_own de_bl))) dss_nil)
  (dss_cons (ds_set 8 hN (dc cx d_read_web (fc.gl' 69) kp_read_web b_read_web_1_ (dall_pos (dg_val (de_var 7) dg_nil))))
  (dss_cons (ds_if (DW.dt (dw_or (dt_not (dt_val (dc cx (fnOk_z d__law_stands) (fc.gl' 71) kp__law_stands b__law_stands_2_ (dall_pos (dg_val (de_var 8) (dg_val (de_var 5) dg_nil)))))) (dw_or1 (dt_not (dt_cmpX (eq_own "Web" cx (fnOk_z d_Web___eq__) b_Web___eq___2_ (fc.f 68)) (de_var 8) (de_var 6)))))) (dss_one (ds_ret (de_own de_bl))) dss_nil)
  (dss_cons (ds_if (DW.dt (dw_or (dt_not (dt_val (dc cx d__law_same (fc.gl' 23) kp__law_same b__law_same_2_ (dall_pos (dg_val (dc cx d_write_web (fc.gl' 70) kp_write_web b_write_web_1_ (dall_pos (dg_val (de_var 8) dg_nil))) (dg_val (de_var 7) dg_nil)))))) (dw_or1 (dt_not (dt_val (dc cx (fnOk_z d__law_stands) (fc.gl' 71) kp__law_stands b__law_stands_2_ (dall_pos (dg_val (de_var 6) (dg_val (de_var 5) dg_nil))))))))) (dss_one (ds_ret (de_own de_bl))) dss_nil)
  (dss_one (ds_ret (de_and (de_cmp (op_eqF (unitsE cx)) ok_eqF (dc cx d_write_web (fc.gl' 70) kp_write_web b_write_web_1_ (dall_pos (dg_val (dk (ar := ar_Web___init___1_by) (n := 0) "Web" cx (fc.f 38) d_Web___init__ (fc.gl' 6) b_Web___init___1_by (dall_kw (dkw_val de_int dkw_nil))) dg_nil))) de_str) (de_bool1 (de_cmpX (eq_own "Web" cx (fnOk_z d_Web___eq__) b_Web___eq___2_ (fc.f 68)) (dc cx d_read_web (fc.gl' 69) kp_read_web b_read_web_1_ (dall_pos (dg_val de_str dg_nil))) (dk (ar := ar_Web___init___2_) (n := 1) "Web" cx (fc.f 38) d_Web___init__ (fc.gl' 6) b_Web___init___2_ (dall_pos (dg_val de_int dg_nil))))))))))))))))))
end
end My
namespace PL
open PySem PySem.Spec L2 DL
section
variable {α : Type} {l : List α} {a0 a1 a2 a3 a4 a5 a6 a7 a8 a9 a10 a11 a12 a13 a14 a15 a16 a17 a18 a19 a20 a21 a22 a23 : α}
@[simp 3000] theorem gt0 : (a0 :: l)[0]? = some a0 := (rfl)
@[simp 3000] theorem sg0 {x : α} : (a0 :: l).set 0 x = x :: l := (rfl)
@[simp 3000] theorem gt1 : (a0 :: a1 :: l)[1]? = some a1 := (rfl)
@[simp 3000] theorem sg1 {x : α} : (a0 :: a1 :: l).set 1 x = a0 :: x :: l := (rfl)
@[simp 3000] theorem gt2 : (a0 :: a1 :: a2 :: l)[2]? = some a2 := (rfl)
@[simp 3000] theorem sg2 {x : α} : (a0 :: a1 :: a2 :: l).set 2 x = a0 :: a1 :: x :: l := (rfl)
@[simp 3000] theorem gt3 : (a0 :: a1 :: a2 :: a3 :: l)[3]? = some a3 := (rfl)
@[simp 3000] theorem sg3 {x : α} : (a0 :: a1 :: a2 :: a3 :: l).set 3 x = a0 :: a1 :: a2 :: x :: l := (rfl)
@[simp 3000] theorem gt4 : (a0 :: a1 :: a2 :: a3 :: a4 :: l)[4]? = some a4 := (rfl)
@[simp 3000] theorem sg4 {x : α} : (a0 :: a1 :: a2 :: a3 :: a4 :: l).set 4 x = a0 :: a1 :: a2 :: a3 :: x :: l := (rfl)
@[simp 3000] theorem gt5 : (a0 :: a1 :: a2 :: a3 :: a4 :: a5 :: l)[5]? = some a5 := (rfl)
@[simp 3000] theorem sg5 {x : α} : (a0 :: a1 :: a2 :: a3 :: a4 :: a5 :: l).set 5 x = a0 :: a1 :: a2 :: a3 :: a4 :: x :: l := (rfl)
@[simp 3000] theorem gt6 : (a0 :: a1 :: a2 :: a3 :: a4 :: a5 :: a6 :: l)[6]? = some a6 := (rfl)
@[simp 3000] theorem sg6 {x : α} : (a0 :: a1 :: a2 :: a3 :: a4 :: a5 :: a6 :: l).set 6 x = a0 :: a1 :: a2 :: a3 :: a4 :: a5 :: x :: l := (rfl)
@[simp 3000] theorem gt7 : (a0 :: a1 :: a2 :: a3 :: a4 :: a5 :: a6 :: a7 :: l)[7]? = some a7 := (rfl)
@[simp 3000] theorem sg7 {x : α} : (a0 :: a1 :: a2 :: a3 :: a4 :: a5 :: a6 :: a7 :: l).set 7 x = a0 :: a1 :: a2 :: a3 :: a4 :: a5 :: a6 :: x :: l := (rfl)
@[simp 3000] theorem gt8 : (a0 :: a1 :: a2 :: a3 :: a4 :: a5 :: a6 :: a7 :: a8 :: l)[8]? = some a8 := (rfl)
@[simp 3000] theorem sg8 {x : α} : (a0 :: a1 :: a2 :: a3 :: a4 :: a5 :: a6 :: a7 :: a8 :: l).set 8 x = a0 :: a1 :: a2 :: a3 :: a4 :: a5 :: a6 :: a7 :: x :: l := (rfl)
@[simp 3000] theorem gt9 : (a0 :: a1 :: a2 :: a3 :: a4 :: a5 :: a6 :: a7 :: a8 :: a9 :: l)[9]? = some a9 := (rfl)
@[simp 3000] theorem sg9 {x : α} : (a0 :: a1 :: a2 :: a3 :: a4 :: a5 :: a6 :: a7 :: a8 :: a9 :: l).set 9 x = a0 :: a1 :: a2 :: a3 :: a4 :: a5 :: a6 :: a7 :: a8 :: x :: l := (rfl)
@[simp 3000] theorem gt10 : (a0 :: a1 :: a2 :: a3 :: a4 :: a5 :: a6 :: a7 :: a8 :: a9 :: a10 :: l)[10]? = some a10 := (rfl)
@[simp 3000] theorem sg10 {x : α} : (a0 :: a1 :: a2 :: a3 :: a4 :: a5 :: a6 :: a7 :: a8 :: a9 :: a10 :: l).set 10 x = a0 :: a1 :: a2 :: a3 :: a4 :: a5 :: a6 :: a7 :: a8 :: a9 :: x :: l := (rfl)
@[simp 3000] theorem gt11 : (a0 :: a1 :: a2 :: a3 :: a4 :: a5 :: a6 :: a7 :: a8 :: a9 :: a10 :: a11 :: l)[11]? = some a11 := (rfl)
@[simp 3000] theorem sg11 {x : α} : (a0 :: a1 :: a2 :: a3 :: a4 :: a5 :: a6 :: a7 :: a8 :: a9 :: a10 :: a11 :: l).set 11 x = a0 :: a1 :: a2 :: a3 :: a4 :: a5 :: a6 :: a7 :: a8 :: a9 :: a10 :: x :: l := (rfl)
@[simp 3000] theorem gt12 : (a0 :: a1 :: a2 :: a3 :: a4 :: a5 :: a6 :: a7 :: a8 :: a9 :: a10 :: a11 :: a12 :: l)[12]? = some a12 := (rfl)
@[simp 3000] theorem sg12 {x : α} : (a0 :: a1 :: a2 :: a3 :: a4 :: a5 :: a6 :: a7 :: a8 :: a9 :: a10 :: a11 :: a12 :: l).set 12 x = a0 :: a1 :: a2 :: a3 :: a4 :: a5 :: a6 :: a7 :: a8 :: a9 :: a10 :: a11 :: x :: l := (rfl)
@[simp 3000] theorem gt13 : (a0 :: a1 :: a2 :: a3 :: a4 :: a5 :: a6 :: a7 :: a8 :: a9 :: a10 :: a11 :: a12 :: a13 :: l)[13]? = some a13 := (rfl)
@[simp 3000] theorem sg13 {x : α} : (a0 :: a1 :: a2 :: a3 :: a4 :: a5 :: a6 :: a7 :: a8 :: a9 :: a10 :: a11 :: a12 :: a13 :: l).set 13 x = a0 :: a1 :: a2 :: a3 :: a4 :: a5 :: a6 :: a7 :: a8 :: a9 :: a10 :: a11 :: a12 :: x :: l := (rfl)
@[simp 3000] theorem gt14 : (a0 :: a1 :: a2 :: a3 :: a4 :: a5 :: a6 :: a7 :: a8 :: a9 :: a10 :: a11 :: a12 :: a13 :: a14 :: l)[14]? = some a14 := (rfl)
@[simp 3000] theorem sg14 {x : α} : (a0 :: a1 :: a2 :: a3 :: a4 :: a5 :: a6 :: a7 :: a8 :: a9 :: a10 :: a11 :: a12 :: a13 :: a14 :: l).set 14 x = a0 :: a1 :: a2 :: a3 :: a4 :: a5 :: a6 :: a7 :: a8 :: a9 :: a10 :: a11 :: a12 :: a13 :: x :: l := (rfl)
@[simp 3000] theorem gt15 : (a0 :: a1 :: a2 :: a3 :: a4 :: a5 :: a6 :: a7 :: a8 :: a9 :: a10 :: a11 :: a12 :: a13 :: a14 :: a15 :: l)[15]? = some a15 := (rfl)
@[simp 3000] theorem sg15 {x : α} : (a0 :: a1 :: a2 :: a3 :: a4 :: a5 :: a6 :: a7 :: a8 :: a9 :: a10 :: a11 :: a12 :: a13 :: a14 :: a15 :: l).set 15 x = a0 :: a1 :: a2 :: a3 :: a4 :: a5 :: a6 :: a7 :: a8 :: a9 :: a10 :: a11 :: a12 :: a13 :: a14 :: x :: l := (rfl)
@[simp 3000] theorem gt16 : (a0 :: a1 :: a2 :: a3 :: a4 :: a5 :: a6 :: a7 :: a8 :: a9 :: a10 :: a11 :: a12 :: a13 :: a14 :: a15 :: a16 :: l)[16]? = some a16 := (rfl)
@[simp 3000] theorem sg16 {x : α} : (a0 :: a1 :: a2 :: a3 :: a4 :: a5 :: a6 :: a7 :: a8 :: a9 :: a10 :: a11 :: a12 :: a13 :: a14 :: a15 :: a16 :: l).set 16 x = a0 :: a1 :: a2 :: a3 :: a4 :: a5 :: a6 :: a7 :: a8 :: a9 :: a10 :: a11 :: a12 :: a13 :: a14 :: a15 :: x :: l := (rfl)
@[simp 3000] theorem gt17 : (a0 :: a1 :: a2 :: a3 :: a4 :: a5 :: a6 :: a7 :: a8 :: a9 :: a10 :: a11 :: a12 :: a13 :: a14 :: a15 :: a16 :: a17 :: l)[17]? = some a17 := (rfl)
@[simp 3000] theorem sg17 {x : α} : (a0 :: a1 :: a2 :: a3 :: a4 :: a5 :: a6 :: a7 :: a8 :: a9 :: a10 :: a11 :: a12 :: a13 :: a14 :: a15 :: a16 :: a17 :: l).set 17 x = a0 :: a1 :: a2 :: a3 :: a4 :: a5 :: a6 :: a7 :: a8 :: a9 :: a10 :: a11 :: a12 :: a13 :: a14 :: a15 :: a16 :: x :: l := (rfl)
@[simp 3000] theorem gt18 : (a0 :: a1 :: a2 :: a3 :: a4 :: a5 :: a6 :: a7 :: a8 :: a9 :: a10 :: a11 :: a12 :: a13 :: a14 :: a15 :: a16 :: a17 :: a18 :: l)[18]? = some a18 := (rfl)
@[simp 3000] theorem sg18 {x : α} : (a0 :: a1 :: a2 :: a3 :: a4 :: a5 :: a6 :: a7 :: a8 :: a9 :: a10 :: a11 :: a12 :: a13 :: a14 :: a15 :: a16 :: a17 :: a18 :: l).set 18 x = a0 :: a1 :: a2 :: a3 :: a4 :: a5 :: a6 :: a7 :: a8 :: a9 :: a10 :: a11 :: a12 :: a13 :: a14 :: a15 :: a16 :: a17 :: x :: l := (rfl)
@[simp 3000] theorem gt19 : (a0 :: a1 :: a2 :: a3 :: a4 :: a5 :: a6 :: a7 :: a8 :: a9 :: a10 :: a11 :: a12 :: a13 :: a14 :: a15 :: a16 :: a17 :: a18 :: a19 :: l)[19]? = some a19 := (rfl)
@[simp 3000] theorem sg19 {x : α} : (a0 :: a1 :: a2 :: a3 :: a4 :: a5 :: a6 :: a7 :: a8 :: a9 :: a10 :: a11 :: a12 :: a13 :: a14 :: a15 :: a16 :: a17 :: a18 :: a19 :: l).set 19 x = a0 :: a1 :: a2 :: a3 :: a4 :: a5 :: a6 :: a7 :: a8 :: a9 :: a10 :: a11 :: a12 :: a13 :: a14 :: a15 :: a16 :: a17 :: a18 :: x :: l := (rfl)
@[simp 3000] theorem gt20 : (a0 :: a1 :: a2 :: a3 :: a4 :: a5 :: a6 :: a7 :: a8 :: a9 :: a10 :: a11 :: a12 :: a13 :: a14 :: a15 :: a16 :: a17 :: a18 :: a19 :: a20 :: l)[20]? = some a20 := (rfl)
@[simp 3000] theorem sg20 {x : α} : (a0 :: a1 :: a2 :: a3 :: a4 :: a5 :: a6 :: a7 :: a8 :: a9 :: a10 :: a11 :: a12 :: a13 :: a14 :: a15 :: a16 :: a17 :: a18 :: a19 :: a20 :: l).set 20 x = a0 :: a1 :: a2 :: a3 :: a4 :: a5 :: a6 :: a7 :: a8 :: a9 :: a10 :: a11 :: a12 :: a13 :: a14 :: a15 :: a16 :: a17 :: a18 :: a19 :: x :: l := (rfl)
@[simp 3000] theorem gt21 : (a0 :: a1 :: a2 :: a3 :: a4 :: a5 :: a6 :: a7 :: a8 :: a9 :: a10 :: a11 :: a12 :: a13 :: a14 :: a15 :: a16 :: a17 :: a18 :: a19 :: a20 :: a21 :: l)[21]? = some a21 := (rfl)
@[simp 3000] theorem sg21 {x : α} : (a0 :: a1 :: a2 :: a3 :: a4 :: a5 :: a6 :: a7 :: a8 :: a9 :: a10 :: a11 :: a12 :: a13 :: a14 :: a15 :: a16 :: a17 :: a18 :: a19 :: a20 :: a21 :: l).set 21 x = a0 :: a1 :: a2 :: a3 :: a4 :: a5 :: a6 :: a7 :: a8 :: a9 :: a10 :: a11 :: a12 :: a13 :: a14 :: a15 :: a16 :: a17 :: a18 :: a19 :: a20 :: x :: l := (rfl)
@[simp 3000] theorem gt22 : (a0 :: a1 :: a2 :: a3 :: a4 :: a5 :: a6 :: a7 :: a8 :: a9 :: a10 :: a11 :: a12 :: a13 :: a14 :: a15 :: a16 :: a17 :: a18 :: a19 :: a20 :: a21 :: a22 :: l)[22]? = some a22 := (rfl)
@[simp 3000] theorem sg22 {x : α} : (a0 :: a1 :: a2 :: a3 :: a4 :: a5 :: a6 :: a7 :: a8 :: a9 :: a10 :: a11 :: a12 :: a13 :: a14 :: a15 :: a16 :: a17 :: a18 :: a19 :: a20 :: a21 :: a22 :: l).set 22 x = a0 :: a1 :: a2 :: a3 :: a4 :: a5 :: a6 :: a7 :: a8 :: a9 :: a10 :: a11 :: a12 :: a13 :: a14 :: a15 :: a16 :: a17 :: a18 :: a19 :: a20 :: a21 :: x :: l := (rfl)
@[simp 3000] theorem gt23 : (a0 :: a1 :: a2 :: a3 :: a4 :: a5 :: a6 :: a7 :: a8 :: a9 :: a10 :: a11 :: a12 :: a13 :: a14 :: a15 :: a16 :: a17 :: a18 :: a19 :: a20 :: a21 :: a22 :: a23 :: l)[23]? = some a23 := (rfl)
@[simp 3000] theorem sg23 {x : α} : (a0 :: a1 :: a2 :: a3 :: a4 :: a5 :: a6 :: a7 :: a8 :: a9 :: a10 :: a11 :: a12 :: a13 :: a14 :: a15 :: a16 :: a17 :: a18 :: a19 :: a20 :: a21 :: a22 :: a23 :: l).set 23 x = a0 :: a1 :: a2 :: a3 :: a4 :: a5 :: a6 :: a7 :: a8 :: a9 :: a10 :: a11 :: a12 :: a13 :: a14 :: a15 :: a16 :: a17 :: a18 :: a19 :: a20 :: a21 :: a22 :: x :: l := (rfl)
end
section
variable {α β : Type} {s0 : Sl} {env e : Evn} {d x y : D} {i j : Nat}
@[simp] theorem ev_aNil : aNil (s0 :: env) = .ok [] (s0 :: env) := (rfl)
@[simp] theorem ev_aCons {f : FE} {g : FA} : aCons f g (s0 :: env) = (f (s0 :: env)).bind fun d e => (g e).map (d :: ·) := (rfl)
@[simp] theorem ev_aConsN {f : FE} {g : FA} : aConsN j f g (s0 :: env) = (f (s0 :: env)).bind fun d e => match e[j]? with
  | some (.bor none _) => (g e).map (d :: ·)
  | _ => .stuck := (rfl)
@[simp] theorem ev_aApp {f g : FA} : aApp f g (s0 :: env) = (f (s0 :: env)).bind fun ds e => (g e).map (ds ++ ·) := (rfl)
@[simp] theorem ev_fC : fC d (s0 :: env) = .ok d (s0 :: env) := (rfl)
@[simp] theorem ev_fVar : fVar i (s0 :: env) = optR (getS (s0 :: env) i) (s0 :: env) := (rfl)
@[simp] theorem ev_fChk {f : FE} : fChk f (s0 :: env) = (f (s0 :: env)).bind fun d e => if d.frz = true then .ok d e else .stuck := (rfl)
@[simp] theorem ev_fMv : fMv i (s0 :: env) = match (s0 :: env)[i]? with
  | some (.own d) => .ok d (putE i .dead (s0 :: env))
  | some (.bor _ d) => if d.frz = true then .ok d (s0 :: env) else .stuck
  | _ => .stuck := (rfl)
@[simp] theorem ev_fFz : fFz i (s0 :: env) = match (s0 :: env)[i]? with
  | some (.own d) => .ok d.fz (putE i (.own d.fz) (putE i .dead (s0 :: env)))
  | some (.bor _ d) => if d.frz = true then .ok d (s0 :: env) else .stuck
  | _ => .stuck := (rfl)
@[simp] theorem ev_fOp {g : List D → Option D} {fa : FA} : fOp g fa (s0 :: env) = (fa (s0 :: env)).bind fun ds e => optR (g ds) e := (rfl)
@[simp] theorem ev_getS : getS (s0 :: env) i = match (s0 :: env)[i]? with
  | some (.own d) => some d
  | some (.bor _ d) => some d
  | _ => none := (rfl)
@[simp] theorem ev_fSeq {f g : FS} : fSeq f g (s0 :: env) = match f (s0 :: env) with
  | .nxt e => g e
  | o => o := (rfl)
@[simp] theorem ev_fNext : fNext (s0 :: env) = .nxt (s0 :: env) := (rfl)
@[simp] theorem ev_fBrk : fBrk (s0 :: env) = .brk (s0 :: env) := (rfl)
@[simp] theorem ev_fCnt : fCnt (s0 :: env) = .cnt (s0 :: env) := (rfl)
@[simp] theorem ev_fExpr {f : FE} : fExpr f (s0 :: env) = (f (s0 :: env)).so fun _ e => .nxt e := (rfl)
@[simp] theorem ev_fRet {f : FE} : fRet f (s0 :: env) = (f (s0 :: env)).so fun d e => .ret d e := (rfl)
@[simp] theorem ev_fIfS {t : FT} {f g : FS} : fIfS t f g (s0 :: env) = (t (s0 :: env)).so fun b e => if b = true then f e else g e := (rfl)
@[simp] theorem ev_fB {f : FE} : fB f (s0 :: env) = (f (s0 :: env)).bind fun d e => match d with
  | .bl b => .ok b e
  | _ => .stuck := (rfl)
@[simp] theorem ev_fAnd {f g : FT} : fAnd f g (s0 :: env) = (f (s0 :: env)).bind fun b e => if b = true then g e else .ok false e := (rfl)
@[simp] theorem ev_fOr {f g : FT} : fOr f g (s0 :: env) = (f (s0 :: env)).bind fun b e => if b = true then .ok true e else g e := (rfl)
@[simp] theorem ev_fNot {f : FT} : fNot f (s0 :: env) = (f (s0 :: env)).map (!·) := (rfl)
@[simp] theorem ev_fAndV {f g : FE} : fAndV f g (s0 :: env) = (f (s0 :: env)).bind fun d e => match d with
  | .bl true => g e
  | .bl false => .ok (.bl false) e
  | _ => .stuck := (rfl)
@[simp] theorem ev_fOrV {f g : FE} : fOrV f g (s0 :: env) = (f (s0 :: env)).bind fun d e => match d with
  | .bl true => .ok (.bl true) e
  | .bl false => g e
  | _ => .stuck := (rfl)
@[simp] theorem ev_fNotV {f : FE} : fNotV f (s0 :: env) = (f (s0 :: env)).bind fun d e => match d with
  | .bl b => .ok (.bl (!b)) e
  | _ => .stuck := (rfl)
@[simp] theorem ev_fIf {t : FT} {f g : FE} : fIf t f g (s0 :: env) = (t (s0 :: env)).bind fun b e => if b = true then f e else g e := (rfl)
@[simp] theorem ev_fChain {g g' : List D → Option D} {fa fb fc : FE} : fChain g g' fa fb fc (s0 :: env) = (aCons fa (aCons fb aNil) (s0 :: env)).bind fun ds e => match ds with
  | [x, y] => (match g [x, y] with
    | some (.bl true) => (fc e).bind fun z e2 => optR (g' [y, z]) e2
    | some (.bl false) => .ok (.bl false) e
    | _ => .stuck)
  | _ => .stuck := (rfl)
@[simp] theorem ev_fPart {f : FE} : fPart f (s0 :: env) = (f (s0 :: env)).bind fun d e => match d with
  | .int i => .ok (some i) e
  | _ => .stuck := (rfl)
@[simp] theorem ev_fSl {fa : FE} {lo hi : Evn → Rs (Option Int)} : fSl fa lo hi (s0 :: env) = (fa (s0 :: env)).bind fun d e1 => (lo e1).bind fun l e2 => (hi e2).bind fun u e3 => optR (oSl d l u) e3 := (rfl)
@[simp] theorem ev_fAsg {k : Kd} {fe : FE} {g : Md → D → Evn → Option Evn} : fAsg k fe g (s0 :: env) = (fe (s0 :: env)).so fun d e => optS ((mdOf k e).bind fun md => g md d e) := (rfl)
@[simp] theorem ev_mdO : mdOf .own (s0 :: env) = some .own := (rfl)
@[simp] theorem ev_mdF : mdOf .frz (s0 :: env) = some .own := (rfl)
@[simp] theorem ev_mdB : mdOf (.bor j) (s0 :: env) = match (s0 :: env)[j]? with
    | some (.own _) => some (.bor (some j))
    | some (.bor r _) => some (.bor r)
    | _ => none := (rfl)
@[simp] theorem ev_gNmO : gNm i .own d (s0 :: env) = if i < (s0 :: env).length then some (putE i (.own d) (s0 :: env)) else none := (rfl)
@[simp] theorem ev_gNmB {r : Option Nat} : gNm i (.bor r) d (s0 :: env) = if i < (s0 :: env).length then (if r = some i then none else some (putE i (if d.frz = true then .own d else .bor r d) (s0 :: env))) else none := (rfl)
@[simp] theorem ev_fCall {Fx : List D → Fo} {kinds : List Bool} {ar : List Ar} {cs : List CK} {fa : FA} : fCall Fx kinds ar cs fa (s0 :: env) = (fa (s0 :: env)).bind fun ds e =>
  if ((jsOf cs kinds ar).isEmpty || rootsOk cs (jsOf cs kinds ar) e) = true then (match fixA cs ds e kinds ar with
    | some as => foRs (jsOf cs kinds ar) e (Fx as)
    | none => .stuck) else .stuck := (rfl)
@[simp] theorem ev_fSlot : fSlot j (s0 :: env) = match (s0 :: env)[j]? with
  | some (.own _) => .ok .non (s0 :: env)
  | _ => .stuck := (rfl)
@[simp] theorem ev_fRcv {cl m : Str} {f : FE} {g : FA} : fRcv cl m f g (s0 :: env) = (f (s0 :: env)).bind fun d e => if isIns cl m d = true then (g e).map (d :: ·) else .stuck := (rfl)
@[simp] theorem ev_fRcvS {cl m : Str} {g : FA} : fRcvS cl m j g (s0 :: env) = match (s0 :: env)[j]? with
  | some (.own d) => if isIns cl m d = true then (g (s0 :: env)).map (.non :: ·) else .stuck
  | _ => .stuck := (rfl)
@[simp] theorem ev_fMk {cl : Str} {Fx : List D → Fo} {kinds : List Bool} {ar : List Ar} {cs : List CK} {fa : FA} : fMk cl Fx kinds ar cs fa (s0 :: env) = (fa (s0 :: env)).bind fun ds e =>
  if ((jsOf cs kinds ar).isEmpty || rootsOk cs (jsOf cs kinds ar) e) = true then (match fixA cs ds e kinds ar with
    | some as => (match Fx (.node true (.ins cl []) [] :: as) with
      | .ret .non (m :: ms) => .ok m (backM (jsOf cs kinds ar) ms e)
      | .exc c x (_ :: ms) => .exc c x (backM (jsOf cs kinds ar) ms e)
      | _ => .stuck)
    | none => .stuck) else .stuck := (rfl)
@[simp] theorem ev_gPlO {p : FP} {op : D → List D → Option (D × D)} {ks : FA} : gPl i p op ks .own d (s0 :: env) = match p (s0 :: env), ks (s0 :: env) with
    | some (sub, g), .ok as _ => (op sub (d :: as)).map fun x => putE i (.own (g x.2)) (s0 :: env)
    | _, _ => none := (rfl)
@[simp] theorem ev_pVar : pVar i (s0 :: env) = match (s0 :: env)[i]? with
  | some (.own d) => some (d, id)
  | _ => none := rfl
@[simp] theorem ev_fForI {fI : Evn → Rs (Md × List D × Bool)} {gD : Md → D → Evn → Option Evn} {fb : FS} : fForI fI gD fb (s0 :: env) = (fI (s0 :: env)).so fun y e1 => ((loopD (gChk y.1 gD) fb y.2.1 (lockR y.1 e1)).nex y.2.2).unl (unlR y.1 e1) := (rfl)
def forH (g : Md → D → Evn → Option Evn) (fb : FS) (e : Evn) : Option (List D) → So
  | some xs => loopD (gChk .own g) fb xs e
  | none => .stuck
@[simp] theorem forH_some {g : Md → D → Evn → Option Evn} {fb : FS} {xs : List D} : forH g fb e (some xs) = loopD (gChk .own g) fb xs e := (rfl)
@[simp] theorem ev_fForR {rg : List D → Option (List D)} {fa : FA} {gD : Md → D → Evn → Option Evn} {fb : FS} : fForR rg fa gD fb (s0 :: env) = (fa (s0 :: env)).so fun ds e1 => forH gD fb e1 (rg ds) := by
  unfold fForR
  congr 1
@[simp] theorem ev_fForO {fi : FE} {gD : Md → D → Evn → Option Evn} {fb : FS} : fForO fi gD fb (s0 :: env) = (fi (s0 :: env)).so fun d e1 => match seqD d with
  | some xs => loopD (gChk .own gD) fb xs e1
  | none => .stuck := (rfl)
@[simp] theorem ev_iAny {k : Kd} {fi : FE} : iAnyD k fi (s0 :: env) = (fi (s0 :: env)).bind fun d e1 => match walkD k d e1 with
  | some (md, d') => (match itemsD d' with
    | some (xs, b) => .ok (md, xs, b) e1
    | none => .stuck)
  | none => .stuck := (rfl)
def rngH (e : Evn) : Option (List D) → Rs (Md × List D × Bool)
  | some xs => .ok (.own, xs, false) e
  | none => .stuck
@[simp] theorem rngH_some {xs : List D} : rngH e (some xs) = .ok (.own, xs, false) e := (rfl)
@[simp] theorem ev_iRng {rg : List D → Option (List D)} {fa : FA} : iRngD rg fa (s0 :: env) = (fa (s0 :: env)).bind fun ds e1 => rngH e1 (rg ds) := by
  unfold iRngD
  congr 1
@[simp] theorem ev_fLc {n : Nat} {vs : List Nat} {fI : Evn → Rs (Md × List D × Bool)} {gD : Md → D → Evn → Option Evn} {ft : FT} {fe : FE} : fLc n vs fI gD ft fe (s0 :: env) = (fI (s0 :: env)).bind fun y e1 =>
  if e1.length = n ∧ (vs.all fun j => decide (j < n)) = true ∧ rootB y.1 (deadM vs (lockR y.1 e1)) = true then (match compD (gChk y.1 gD) ft fe (deadM vs (lockR y.1 e1)) y.2.1 with
    | some ds => if ds.length ≤ sizeLine then .ok (.node true .lst ds) e1 else .stuck
    | none => .stuck) else .stuck := (rfl)
@[simp] theorem ev_fYes : fYes (s0 :: env) = .ok true (s0 :: env) := (rfl)
@[simp] theorem ev_fMut {p : FP} {T : String} {fa : FA} {op : D → List D → Option (D × D)} : fMut i p T fa op (s0 :: env) = match p (s0 :: env) with
  | some (sub, g) => if tyD sub = some T then endMut i sub g op (fa (lockE i (s0 :: env))) else .stuck
  | none => .stuck := (rfl)
@[simp] theorem ev_endMut {sub : D} {g : D → D} {op : D → List D → Option (D × D)} {ds : List D} : endMut i sub g op (.ok ds e) = match lkD e i, op sub ds with
    | some _, some (r, sub') => .ok r (putE i (.own (g sub')) e)
    | _, _ => .stuck := (rfl)
@[simp] theorem ev_fPar {fa : FA} {g : Md → List D → Evn → Option Evn} : fPar fa g (s0 :: env) = (fa (s0 :: env)).so fun ds e => optS (g .own ds e) := (rfl)
@[simp] theorem ev_fDic {xs : List Str} {fa : FA} : fDic xs fa (s0 :: env) = (fa (s0 :: env)).bind fun ds e => .ok (.node true (.dic (xs.map .inr)) ds) e := (rfl)
def istr (i : Int) : Str := (toString i : String)
@[simp] theorem ev_fJs0 {acc : Str} : fJs [] acc (s0 :: env) = .ok (.str acc) (s0 :: env) := (rfl)
@[simp] theorem ev_fJs1 {f : FE} {fs : List FE} {acc : Str} : fJs (f :: fs) acc (s0 :: env) = (f (s0 :: env)).bind fun d e => match d with
    | .str y => if (acc ++ y).length ≤ sizeLine then fJs fs (acc ++ y) e else .stuck
    | _ => .stuck := (rfl)
@[simp] theorem ev_fFmt {f : FE} : fFmt f (s0 :: env) = (f (s0 :: env)).bind fun d e => match d with
  | .str y => if y.length ≤ sizeLine then .ok (.str y) e else .stuck
  | .int i => if i.natAbs.log2 < 1920 then .ok (.str (istr i)) e else .stuck
  | _ => .stuck := (rfl)
@[simp] theorem ev_gsNil {md : Md} {ds : List D} : gsNil md ds (s0 :: env) = match ds with
  | [] => some (s0 :: env)
  | _ => none := (rfl)
@[simp] theorem ev_gsCons {g : Md → D → Evn → Option Evn} {gs : Md → List D → Evn → Option Evn} {md : Md} {ds : List D} : gsCons g gs md (d :: ds) (s0 :: env) = (g md d (s0 :: env)).bind (gs md ds) := (rfl)
@[simp] theorem ev_gTu {gs : Md → List D → Evn → Option Evn} {md : Md} {o : Bool} {xs : List D} : gTu gs md (.node o .tup xs) (s0 :: env) = gs md xs (s0 :: env) := (rfl)
@[simp] theorem ev_gChk {md : Md} {g : Md → D → Evn → Option Evn} : gChk md g d (s0 :: env) = if rootB md (s0 :: env) = true then g md d (s0 :: env) else none := (rfl)
def pIxH : D × (D → D) → Rs D → Option (D × (D → D)) := fun x r => match x, r with
  | (.node true s xs, g), .ok k _ => subAt (atIx s xs.length k) (.node true s xs, g)
  | _, _ => none
@[simp] theorem ev_pIx {p : FP} {fi : FE} : pIx p fi (s0 :: env) = (p (s0 :: env)).bind fun x => pIxH x (fi (s0 :: env)) := (rfl)
@[simp] theorem unl_nxt {u : Evn → Option Evn} : So.unl u (.nxt e) = optSo (u e) .nxt := (rfl)
@[simp] theorem unl_ret {u : Evn → Option Evn} : So.unl u (.ret d e) = optSo (u e) (.ret d) := (rfl)
@[simp] theorem unl_exc {u : Evn → Option Evn} {c : Str} : So.unl u (.exc c d e) = optSo (u e) (.exc c d) := (rfl)
@[simp] theorem nex_false {o : So} : So.nex false o = o := by cases o <;> rfl
@[simp] theorem nex_nxt {b : Bool} : So.nex b (.nxt e) = .nxt e := (rfl)
@[simp] theorem nex_ret {b : Bool} : So.nex b (.ret d e) = .ret d e := (rfl)
@[simp] theorem foRs_ret {js : List Nat} {ms : List D} : foRs js e (.ret d ms) = .ok d (backM js ms e) := (rfl)
@[simp] theorem foRs_exc {js : List Nat} {ms : List D} {c : Str} : foRs js e (.exc c d ms) = .exc c d (backM js ms e) := (rfl)
@[simp] theorem ev_putE {s : Sl} : putE i s (s0 :: env) = (kill i (s0 :: env)).set i s := (rfl)
@[simp] theorem ev_kill0 : kill i [] = [] := (rfl)
@[simp] theorem ev_kill1 {s : Sl} : kill i (s :: env) = killS i s :: kill i env := (rfl)
@[simp] theorem ev_killD : killS i .dead = .dead := (rfl)
@[simp] theorem ev_killO : killS i (.own d) = .own d := (rfl)
@[simp] theorem ev_killN : killS i (.bor none d) = .bor none d := (rfl)
@[simp] theorem ev_killB : killS i (.bor (some j) d) = if j = i then .dead else .bor (some j) d := (rfl)
@[simp] theorem ev_initE {kinds : List Bool} {ds : List D} {n : Nat} : initE kinds ds n = (List.zipWith (fun (b : Bool) d => if b = true then Sl.own d else Sl.bor none d) kinds ds) ++ List.replicate (n - ds.length) .dead := (rfl)
@[simp] theorem ev_getMi0 : getMi [] i (s0 :: env) = some [] := (rfl)
@[simp] theorem ev_getMiF {ks : List Bool} : getMi (false :: ks) i (s0 :: env) = getMi ks (i + 1) (s0 :: env) := (rfl)
@[simp] theorem ev_getMiT {ks : List Bool} : getMi (true :: ks) i (s0 :: env) = match (s0 :: env)[i]? with
    | some (.own d) => (getMi ks (i + 1) (s0 :: env)).map (d :: ·)
    | _ => none := (rfl)
@[simp] theorem ev_endN {kinds : List Bool} : endF kinds (.nxt e) = optF (getMi kinds 0 e) (.ret .non) := (rfl)
@[simp] theorem ev_endR {kinds : List Bool} : endF kinds (.ret d e) = optF (getMi kinds 0 e) (.ret d) := (rfl)
@[simp] theorem ev_endX {kinds : List Bool} {c : Str} : endF kinds (.exc c d e) = optF (getMi kinds 0 e) (.exc c d) := (rfl)
@[simp] theorem ev_endS {kinds : List Bool} : endF kinds .stuck = .stuck := (rfl)
@[simp] theorem ev_frN {o : Bool} {s : Sh} {xs : List D} : (D.node o s xs).frz = (!o && frzL xs) := (rfl)
@[simp] theorem ev_frI {z : Int} : (D.int z).frz = true := (rfl)
@[simp] theorem ev_frS {z : Str} : (D.str z).frz = true := (rfl)
@[simp] theorem ev_frB {z : Bool} : (D.bl z).frz = true := (rfl)
@[simp] theorem ev_frNo : D.non.frz = true := (rfl)
@[simp] theorem ev_frL0 : frzL [] = true := (rfl)
@[simp] theorem ev_frL1 {xs : List D} : frzL (d :: xs) = (d.frz && frzL xs) := (rfl)
@[simp] theorem ev_js0 {cs : List CK} {ar : List Ar} : jsOf cs [] ar = [] := by cases ar <;> rfl
@[simp] theorem ev_js00 {cs : List CK} {ks : List Bool} : jsOf cs ks [] = [] := by rcases ks with _ | ⟨b, ks⟩ <;> first | rfl | (cases b <;> rfl)
@[simp] theorem ev_jsT {cs : List CK} {ks : List Bool} {ar : List Ar} : jsOf cs (true :: ks) (.arg i :: ar) = match cs[i]? with
    | some (.slot j) => j :: jsOf cs ks ar
    | _ => jsOf cs ks ar := (rfl)
@[simp] theorem ev_jsF {cs : List CK} {ks : List Bool} {ar : List Ar} {a : Ar} : jsOf cs (false :: ks) (a :: ar) = jsOf cs ks ar := (rfl)
@[simp] theorem ev_jsTd {cs : List CK} {ks : List Bool} {ar : List Ar} : jsOf cs (true :: ks) (.dfl d :: ar) = jsOf cs ks ar := (rfl)
@[simp] theorem ev_fx0 {cs : List CK} {ds : List D} : fixA cs ds (s0 :: env) [] [] = some [] := (rfl)
@[simp] theorem ev_fxT {cs : List CK} {ds : List D} {ks : List Bool} {ar : List Ar} : fixA cs ds (s0 :: env) (true :: ks) (.arg i :: ar) = match cs[i]? with
    | some (.slot j) => match (s0 :: env)[j]? with
      | some (.own d) => (fixA cs ds (s0 :: env) ks ar).map (d :: ·)
      | _ => none
    | _ => none := (rfl)
@[simp] theorem ev_fxF {cs : List CK} {ds : List D} {ks : List Bool} {ar : List Ar} : fixA cs ds (s0 :: env) (false :: ks) (.arg i :: ar) = match cs[i]? with
    | some (.val _) => match ds[i]? with
      | some d => (fixA cs ds (s0 :: env) ks ar).map (d :: ·)
      | none => none
    | _ => none := (rfl)
@[simp] theorem ev_fxD {cs : List CK} {ds : List D} {ks : List Bool} {ar : List Ar} : fixA cs ds (s0 :: env) (false :: ks) (.dfl d :: ar) = if (plainV d).isSome = true then (fixA cs ds (s0 :: env) ks ar).map (d :: ·) else none := (rfl)
@[simp] theorem ev_plI {z : Int} : plainV (.int z) = some (.int z) := (rfl)
@[simp] theorem ev_plN : plainV .non = some .non := (rfl)
@[simp] theorem ev_plB {z : Bool} : plainV (.bl z) = some (.bl z) := (rfl)
@[simp] theorem ev_plS {z : Str} : plainV (.str z) = some (.str z) := (rfl)
@[simp] theorem ev_roots {cs : List CK} {js : List Nat} : rootsOk cs js (s0 :: env) = cs.all fun c => match c with
  | .val (.bor r) => rootOk (s0 :: env) js r
  | _ => true := (rfl)
@[simp] theorem ev_root {js : List Nat} : rootOk (s0 :: env) js i = match (s0 :: env)[i]? with
  | some (.own _) => !js.contains i
  | some (.bor none _) => true
  | some (.bor (some m) _) => !js.contains m
  | _ => false := (rfl)
@[simp] theorem ev_back {js : List Nat} {ms : List D} : backM js ms (s0 :: env) = putM js ms (deadM js (s0 :: env)) := (rfl)
@[simp] theorem ev_deadM0 : deadM [] (s0 :: env) = (s0 :: env) := (rfl)
@[simp] theorem ev_deadM1 {js : List Nat} : deadM (j :: js) (s0 :: env) = deadM js (putE j .dead (s0 :: env)) := (rfl)
@[simp] theorem ev_putM0 {ms : List D} : putM [] ms (s0 :: env) = (s0 :: env) := by cases ms <;> rfl
@[simp] theorem ev_putM1 {js : List Nat} {ms : List D} : putM (j :: js) (d :: ms) (s0 :: env) = putM js ms (putE j (.own d) (s0 :: env)) := (rfl)
@[simp] theorem ev_lockE : lockE i (s0 :: env) = match (s0 :: env)[i]? with
  | some (.own d) => (s0 :: env).set i (.bor (some i) d)
  | _ => (s0 :: env) := (rfl)
@[simp] theorem ev_unlkE : unlkE i (s0 :: env) = match (s0 :: env)[i]? with
  | some (.bor _ d) => (s0 :: env).set i (.own d)
  | _ => (s0 :: env) := (rfl)
@[simp] theorem ev_lkD : lkD (s0 :: env) i = match (s0 :: env)[i]? with
  | some (.bor (some m) d) => if m = i then some d else none
  | _ => none := (rfl)
@[simp] theorem ev_lkD' : lkD' (s0 :: env) i = (lkD (s0 :: env) i).isSome := (rfl)
@[simp] theorem ev_lockO : lockR .own (s0 :: env) = (s0 :: env) := (rfl)
@[simp] theorem ev_lockN : lockR (.bor none) (s0 :: env) = (s0 :: env) := (rfl)
@[simp] theorem ev_lockB : lockR (.bor (some j)) (s0 :: env) = lockE j (s0 :: env) := (rfl)
@[simp] theorem ev_unlO : unlR .own e (s0 :: env) = some (s0 :: env) := (rfl)
@[simp] theorem ev_unlN : unlR (.bor none) e (s0 :: env) = some (s0 :: env) := (rfl)
@[simp] theorem ev_unlB : unlR (.bor (some j)) e (s0 :: env) = match e[j]? with
    | some (.own _) => (lkD (s0 :: env) j).map fun d => (s0 :: env).set j (.own d)
    | _ => some (s0 :: env) := (rfl)
@[simp] theorem ev_rootBO : rootB .own (s0 :: env) = true := (rfl)
@[simp] theorem ev_rootBN : rootB (.bor none) (s0 :: env) = true := (rfl)
@[simp] theorem ev_rootBB : rootB (.bor (some j)) (s0 :: env) = lkD' (s0 :: env) j := (rfl)
@[simp] theorem ev_walkO : walkD .own d (s0 :: env) = some (.own, d.fz) := (rfl)
@[simp] theorem ev_walkF : walkD .frz d (s0 :: env) = some (.own, d) := (rfl)
@[simp] theorem ev_walkB : walkD (.bor j) d (s0 :: env) = if d.frz = true then some (.own, d) else (mdOf (.bor j) (s0 :: env)).map fun md => (md, d) := (rfl)
@[simp] theorem ev_itL {o : Bool} {xs : List D} : itemsD (.node o .lst xs) = some (xs, false) := (rfl)
@[simp] theorem ev_itT {o : Bool} {xs : List D} : itemsD (.node o .tup xs) = some (xs, false) := (rfl)
@[simp] theorem ev_itD {o : Bool} {xs : List D} {ks : List Key} : itemsD (.node o (.dic ks) xs) = some (ks.map keyV, true) := (rfl)
@[simp] theorem ev_itS {z : Str} : itemsD (.str z) = some (z.cps.toList.map fun c => .str ⟨#[c]⟩, false) := (rfl)
@[simp] theorem ev_fz {o : Bool} {s : Sh} {xs : List D} : (D.node o s xs).fz = .node false s (fzL xs) := (rfl)
@[simp] theorem ev_fzI {z : Int} : (D.int z).fz = .int z := (rfl)
@[simp] theorem ev_fzS {z : Str} : (D.str z).fz = .str z := (rfl)
@[simp] theorem ev_fzB {z : Bool} : (D.bl z).fz = .bl z := (rfl)
@[simp] theorem ev_fzN : D.non.fz = .non := (rfl)
@[simp] theorem ev_fzL0 : fzL [] = [] := (rfl)
@[simp] theorem ev_fzL1 {xs : List D} : fzL (d :: xs) = d.fz :: fzL xs := (rfl)
@[simp] theorem ev_tyL {xs : List D} : tyD (.node true .lst xs) = some "list" := (rfl)
@[simp] theorem ev_tyDi {xs : List D} {ks : List Key} : tyD (.node true (.dic ks) xs) = some "dict" := (rfl)
@[simp] theorem ev_seqL {o : Bool} {xs : List D} : seqD (.node o .lst xs) = some xs := (rfl)
@[simp] theorem ev_seqT {o : Bool} {xs : List D} : seqD (.node o .tup xs) = some xs := (rfl)
@[simp] theorem ev_rng1 {z : Int} (h0 : 0 ≤ z) (h1 : z < 1000000) : rng1D [.int z] = some (rangeD 0 z.toNat) := by
  show (if -(2 ^ 62) ≤ z ∧ z < 2 ^ 62 then some (rangeD 0 z.toNat) else none) = _
  rw [if_pos (by omega)]
@[simp] theorem ev_rng2 {y z : Int} (h0 : 0 ≤ y) (h1 : z < 1000000) (h2 : y < 1000000) (h3 : -1000000 < z) : rng2D [.int y, .int z] = some (rangeD y (z - y).toNat) := by
  show (if -(2 ^ 62) ≤ y ∧ y < 2 ^ 62 ∧ -(2 ^ 62) ≤ z ∧ z < 2 ^ 62 then some (rangeD y (z - y).toNat) else none) = _
  rw [if_pos (by omega)]
variable {a b : Int} {o o' : Bool} {xs ys : List D} {s t : Str}
@[simp] theorem oAdd_ii : oAdd [.int a, .int b] = some (.int (a + b)) := (rfl)
@[simp] theorem oSub_ii : oSub [.int a, .int b] = some (.int (a - b)) := (rfl)
@[simp] theorem oMul_c : oMul [.int a, .int b] = if (-(2 ^ 64) < a ∧ a < 2 ^ 64) ∨ (-(2 ^ 64) < b ∧ b < 2 ^ 64) then some (.int (a * b)) else none := (rfl)
@[simp] theorem oFdiv_c : oFdiv [.int a, .int b] = if 0 < b ∧ (b < 1073741824 ∨ b.natAbs.log2 < 9000) then some (.int (a / b)) else none := (rfl)
@[simp] theorem oMod_c : oMod [.int a, .int b] = if 0 < b then some (.int (a % b)) else none := (rfl)
@[simp] theorem oPow_c : oPow [.int a, .int b] = if 0 ≤ b ∧ b ≤ 1000000 ∧ a.natAbs < 2 ^ 64 then some (.int (a ^ b.toNat)) else none := (rfl)
@[simp] theorem oLt_ii : oLt [.int a, .int b] = some (.bl (decide (a < b))) := (rfl)
@[simp] theorem oLe_ii : oLe [.int a, .int b] = some (.bl (decide (a ≤ b))) := (rfl)
@[simp] theorem oGt_ii : oGt [.int a, .int b] = some (.bl (decide (b < a))) := (rfl)
@[simp] theorem oGe_ii : oGe [.int a, .int b] = some (.bl (decide (b ≤ a))) := (rfl)
@[simp] theorem oNeg_i : oNeg [.int a] = some (.int (-a)) := (rfl)
@[simp] theorem oStr_i : o1 gStr [.int a] = if a.natAbs.log2 < 1920 then some (.str (istr a)) else none := (rfl)
@[simp] theorem oStr_s : o1 gStr [.str s] = some (.str s) := (rfl)
def absI (i : Int) : Int := if i < 0 then -i else i
@[simp] theorem oAbs_i : o1 gAbs [.int a] = some (.int (absI a)) := (rfl)
@[simp] theorem oAdd_ll : oAdd [.node o .lst xs, .node o' .lst ys] = if frzL xs = true ∧ frzL ys = true ∧ xs.length + ys.length ≤ sizeLine then some (.node true .lst (xs ++ ys)) else none := (rfl)
@[simp] theorem oAdd_ss : oAdd [.str s, .str t] = if s.length + t.length ≤ sizeLine then some (.str (s ++ t)) else none := (rfl)
@[simp] theorem oLen_l : oLen [.node o .lst xs] = some (.int xs.length) := (rfl)
@[simp] theorem oLen_t : oLen [.node o .tup xs] = some (.int xs.length) := (rfl)
@[simp] theorem oLen_d {ks : List Key} : oLen [.node o (.dic ks) xs] = some (.int xs.length) := (rfl)
theorem oLen_s (h : s.length ≤ sizeLine) : oLen [.str s] = some (.int s.length) := by
  unfold oLen lenD
  simp only [if_pos h, Option.map_some]
  rfl
@[simp] theorem oItm_l : oItm [.node o .lst xs, .int a] = atI xs a := (rfl)
@[simp] theorem oItm_t : oItm [.node o .tup xs, .int a] = atI xs a := (rfl)
@[simp] theorem oIsN_c : oIsN [x, .non] = some (.bl (isNonD x)) := (rfl)
@[simp] theorem oNotN_c : oNotN [x, .non] = some (.bl (!isNonD x)) := (rfl)
@[simp] theorem oList_l : oList [.node o .lst xs] = if frzL xs = true then some (.node true .lst xs) else none := (rfl)
@[simp] theorem oList_t : oList [.node o .tup xs] = if frzL xs = true then some (.node true .lst xs) else none := (rfl)
@[simp] theorem oAll_l : oAll [.node o .lst xs] = (blsD xs).map fun bs => .bl (bs.all id) := (rfl)
@[simp] theorem oAny_l : oAny [.node o .lst xs] = (blsD xs).map fun bs => .bl (bs.any id) := (rfl)
@[simp] theorem oIsi_c {tab : List (TyK × Bool)} : oIsi tab [x] = ((tyKD x).bind (look2 tab)).map .bl := (rfl)
theorem atI_pos {α : Type} {xs : List α} {i : Int} (h : 0 ≤ i) : atI xs i = xs[i.toNat]? := by
  unfold atI ixN
  rw [if_pos h]
  by_cases h1 : i < xs.length
  · rw [if_pos h1]; rfl
  · rw [if_neg h1]; exact (List.getElem?_eq_none (by omega)).symm
@[simp] theorem atI_cons {α : Type} {x : α} {xs : List α} {i : Int} (h : 0 ≤ i) : atI (x :: xs) i = (x :: xs)[i.toNat]? := atI_pos h
@[simp] theorem isNon_int : isNonD (.int a) = false := (rfl)
@[simp] theorem isNon_str : isNonD (.str s) = false := (rfl)
@[simp] theorem isNon_non : isNonD .non = true := (rfl)
@[simp] theorem isNon_node {sh : Sh} : isNonD (.node o sh xs) = false := (rfl)
@[simp] theorem isNon_bl {z : Bool} : isNonD (.bl z) = false := (rfl)
theorem frzL_append : frzL (xs ++ ys) = (frzL xs && frzL ys) := by rw [frzL_all, frzL_all, frzL_all, List.all_append]
theorem frzL_of (h : ∀ d ∈ xs, d.frz = true) : frzL xs = true := by rw [frzL_all, List.all_eq_true]; exact h
@[simp] theorem frzL_map_str {l : List Str} : frzL (l.map .str) = true := frzL_of fun d h => by obtain ⟨z, _, rfl⟩ := List.mem_map.mp h; rfl
@[simp] theorem frzL_map_int {l : List Int} : frzL (l.map .int) = true := frzL_of fun d h => by obtain ⟨z, _, rfl⟩ := List.mem_map.mp h; rfl
end
theorem blsD_map {α : Type} {f : α → Bool} : ∀ {l : List α}, blsD (l.map fun c => D.bl (f c)) = some (l.map f)
  | [] => rfl
  | a :: l => by rw [List.map_cons]; unfold blsD; rw [blsD_map]; rfl
@[simp] theorem sizeLine_v : sizeLine = 16777216 := sizeLine_eq
@[simp] theorem oEq_ss (x y : Str) : oEqF [.str x, .str y] = some (.bl (decide (x = y))) := by
  show some (D.bl (decide (V.str x = V.str y))) = _
  by_cases h : x = y <;> simp [h]
@[simp] theorem oNe_ss (x y : Str) : oNeF [.str x, .str y] = some (.bl (!decide (x = y))) := by
  show some (D.bl (!decide (V.str x = V.str y))) = _
  by_cases h : x = y <;> simp [h]
@[simp] theorem oEq_ii (x y : Int) : oEqF [.int x, .int y] = some (.bl (decide (x = y))) := by
  show some (D.bl (decide (V.int x = V.int y))) = _
  by_cases h : x = y <;> simp [h]
@[simp] theorem oNe_ii (x y : Int) : oNeF [.int x, .int y] = some (.bl (!decide (x = y))) := by
  show some (D.bl (!decide (V.int x = V.int y))) = _
  by_cases h : x = y <;> simp [h]
@[simp] theorem oEq_bb (x y : Bool) : oEqF [.bl x, .bl y] = some (.bl (decide (x = y))) := by
  show some (D.bl (decide (V.bl x = V.bl y))) = _
  by_cases h : x = y <;> simp [h]
@[simp] theorem oNe_bb (x y : Bool) : oNeF [.bl x, .bl y] = some (.bl (!decide (x = y))) := by
  show some (D.bl (!decide (V.bl x = V.bl y))) = _
  by_cases h : x = y <;> simp [h]
@[simp] theorem opAppend_l {xs : List D} {d : D} : opAppend (.node true .lst xs) [d] = if xs.length < sizeLine then some (.non, .node true .lst (xs ++ [d])) else none := (rfl)
@[simp] theorem opRev_l {xs : List D} : opRev (.node true .lst xs) [] = some (.non, .node true .lst xs.reverse) := (rfl)
theorem opPopAt_l {xs : List D} {i : Int} {d : D} (h0 : 0 ≤ i) (h1 : i < xs.length) (h2 : xs.length ≤ 1000000) (e : xs[i.toNat]? = some d) : opPopAt (.node true .lst xs) [.int i] = some (d, .node true .lst (xs.eraseIdx i.toNat)) := by
  unfold opPopAt ixN
  simp only []
  rw [if_pos (by omega), if_pos h0, if_pos h1]
  show (xs[i.toNat]?).map _ = _
  rw [e]
  rfl
theorem log2_le {i : Int} (h : i.natAbs < 2 ^ 64) : i.natAbs.log2 < 1920 := by
  by_cases z : i.natAbs = 0
  · rw [z]; decide
  · have q := (Nat.log2_lt z).mpr h
    omega
@[simp] theorem log2_ok {i : Int} (h : i.natAbs < 18446744073709551616) : (i.natAbs.log2 < 1920) = True := eq_true (log2_le h)
@[simp] theorem log2_okN {n : Nat} (h : n < 18446744073709551616) : (n.log2 < 1920) = True := by
  have q := log2_le (i := (n : Int)) (by omega)
  rw [Int.natAbs_natCast] at q
  exact eq_true q
@[simp] theorem str_len {s t : Str} : (s ++ t).length = s.length + t.length := by
  show (s.cps ++ t.cps).size = s.cps.size + t.cps.size
  exact Array.size_append ..
@[simp] theorem str_empty {s : Str} : Str.empty ++ s = s := by
  show (⟨#[] ++ s.cps⟩ : Str) = s
  rw [Array.empty_append]
theorem istr_len {n : Nat} (h : n ≤ 2000) : (istr (n : Int)).length ≤ 20 := by
  have q : ∀ k ∈ List.range 2001, (istr (k : Int)).length ≤ 20 := by decide +kernel
  exact q n (List.mem_range.mpr (by omega))
theorem eraseIdx_map' {α β : Type} (f : α → β) : ∀ (l : List α) (i : Nat), (l.map f).eraseIdx i = (l.eraseIdx i).map f
  | [], _ => rfl
  | _ :: _, 0 => rfl
  | a :: l, i + 1 => by simp [List.eraseIdx, eraseIdx_map' f l i]
theorem perm_eraseIdx' {α : Type} : ∀ (l : List α) (i : Nat) (y : α), l[i]? = some y → (y :: l.eraseIdx i).Perm l
  | [], i, y, h => by simp at h
  | a :: l, 0, y, h => by simp at h; subst h; exact List.Perm.refl _
  | a :: l, i + 1, y, h => by
    have q := perm_eraseIdx' l i y (by simpa using h)
    show (y :: a :: l.eraseIdx i).Perm (a :: l)
    exact (List.Perm.swap a y _).trans (q.cons a)
theorem rangeD_frz {lo : Int} {n i : Nat} {x : D} (h : (rangeD lo n)[i]? = some x) : x = .int (lo + i) ∧ i < n := by
  unfold rangeD at h
  rw [List.getElem?_map] at h
  obtain ⟨z, h1, rfl⟩ := Option.map_eq_some_iff.mp h
  obtain ⟨h2, h3⟩ := List.getElem?_eq_some_iff.mp h1
  rw [List.length_range] at h2
  rw [List.getElem_range] at h3
  exact ⟨by rw [h3], h2⟩
theorem rangeD_len {lo : Int} {n : Nat} : (rangeD lo n).length = n := by simp [rangeD]
theorem oLst_n {ds : List D} (h : ds.length ≤ 1000) : oLst ds = some (.node true .lst ds) := if_pos (by rw [sizeLine_eq]; omega)
theorem oTup_n {ds : List D} (h : ds.length ≤ 1000) : oTup ds = some (.node (!frzL ds) .tup ds) := if_pos (by rw [sizeLine_eq]; omega)
section
variable {a0 a1 a2 a3 a4 a5 a6 a7 a8 a9 a10 a11 a12 a13 a14 a15 : D}
@[simp] theorem oLst0 : oLst [] = some (.node true .lst []) := oLst_n (by show 0 ≤ 1000; decide)
@[simp] theorem oTup0 : oTup [] = some (.node (!frzL []) .tup []) := oTup_n (by show 0 ≤ 1000; decide)
@[simp] theorem oLst1 : oLst [a0] = some (.node true .lst [a0]) := oLst_n (by show 1 ≤ 1000; decide)
@[simp] theorem oTup1 : oTup [a0] = some (.node (!frzL [a0]) .tup [a0]) := oTup_n (by show 1 ≤ 1000; decide)
@[simp] theorem oLst2 : oLst [a0, a1] = some (.node true .lst [a0, a1]) := oLst_n (by show 2 ≤ 1000; decide)
@[simp] theorem oTup2 : oTup [a0, a1] = some (.node (!frzL [a0, a1]) .tup [a0, a1]) := oTup_n (by show 2 ≤ 1000; decide)
@[simp] theorem oLst3 : oLst [a0, a1, a2] = some (.node true .lst [a0, a1, a2]) := oLst_n (by show 3 ≤ 1000; decide)
@[simp] theorem oTup3 : oTup [a0, a1, a2] = some (.node (!frzL [a0, a1, a2]) .tup [a0, a1, a2]) := oTup_n (by show 3 ≤ 1000; decide)
@[simp] theorem oLst4 : oLst [a0, a1, a2, a3] = some (.node true .lst [a0, a1, a2, a3]) := oLst_n (by show 4 ≤ 1000; decide)
@[simp] theorem oTup4 : oTup [a0, a1, a2, a3] = some (.node (!frzL [a0, a1, a2, a3]) .tup [a0, a1, a2, a3]) := oTup_n (by show 4 ≤ 1000; decide)
@[simp] theorem oLst5 : oLst [a0, a1, a2, a3, a4] = some (.node true .lst [a0, a1, a2, a3, a4]) := oLst_n (by show 5 ≤ 1000; decide)
@[simp] theorem oTup5 : oTup [a0, a1, a2, a3, a4] = some (.node (!frzL [a0, a1, a2, a3, a4]) .tup [a0, a1, a2, a3, a4]) := oTup_n (by show 5 ≤ 1000; decide)
@[simp] theorem oLst6 : oLst [a0, a1, a2, a3, a4, a5] = some (.node true .lst [a0, a1, a2, a3, a4, a5]) := oLst_n (by show 6 ≤ 1000; decide)
@[simp] theorem oTup6 : oTup [a0, a1, a2, a3, a4, a5] = some (.node (!frzL [a0, a1, a2, a3, a4, a5]) .tup [a0, a1, a2, a3, a4, a5]) := oTup_n (by show 6 ≤ 1000; decide)
@[simp] theorem oLst7 : oLst [a0, a1, a2, a3, a4, a5, a6] = some (.node true .lst [a0, a1, a2, a3, a4, a5, a6]) := oLst_n (by show 7 ≤ 1000; decide)
@[simp] theorem oTup7 : oTup [a0, a1, a2, a3, a4, a5, a6] = some (.node (!frzL [a0, a1, a2, a3, a4, a5, a6]) .tup [a0, a1, a2, a3, a4, a5, a6]) := oTup_n (by show 7 ≤ 1000; decide)
@[simp] theorem oLst8 : oLst [a0, a1, a2, a3, a4, a5, a6, a7] = some (.node true .lst [a0, a1, a2, a3, a4, a5, a6, a7]) := oLst_n (by show 8 ≤ 1000; decide)
@[simp] theorem oTup8 : oTup [a0, a1, a2, a3, a4, a5, a6, a7] = some (.node (!frzL [a0, a1, a2, a3, a4, a5, a6, a7]) .tup [a0, a1, a2, a3, a4, a5, a6, a7]) := oTup_n (by show 8 ≤ 1000; decide)
@[simp] theorem oLst9 : oLst [a0, a1, a2, a3, a4, a5, a6, a7, a8] = some (.node true .lst [a0, a1, a2, a3, a4, a5, a6, a7, a8]) := oLst_n (by show 9 ≤ 1000; decide)
@[simp] theorem oTup9 : oTup [a0, a1, a2, a3, a4, a5, a6, a7, a8] = some (.node (!frzL [a0, a1, a2, a3, a4, a5, a6, a7, a8]) .tup [a0, a1, a2, a3, a4, a5, a6, a7, a8]) := oTup_n (by show 9 ≤ 1000; decide)
@[simp] theorem oLst10 : oLst [a0, a1, a2, a3, a4, a5, a6, a7, a8, a9] = some (.node true .lst [a0, a1, a2, a3, a4, a5, a6, a7, a8, a9]) := oLst_n (by show 10 ≤ 1000; decide)
@[simp] theorem oTup10 : oTup [a0, a1, a2, a3, a4, a5, a6, a7, a8, a9] = some (.node (!frzL [a0, a1, a2, a3, a4, a5, a6, a7, a8, a9]) .tup [a0, a1, a2, a3, a4, a5, a6, a7, a8, a9]) := oTup_n (by show 10 ≤ 1000; decide)
@[simp] theorem oLst11 : oLst [a0, a1, a2, a3, a4, a5, a6, a7, a8, a9, a10] = some (.node true .lst [a0, a1, a2, a3, a4, a5, a6, a7, a8, a9, a10]) := oLst_n (by show 11 ≤ 1000; decide)
@[simp] theorem oTup11 : oTup [a0, a1, a2, a3, a4, a5, a6, a7, a8, a9, a10] = some (.node (!frzL [a0, a1, a2, a3, a4, a5, a6, a7, a8, a9, a10]) .tup [a0, a1, a2, a3, a4, a5, a6, a7, a8, a9, a10]) := oTup_n (by show 11 ≤ 1000; decide)
@[simp] theorem oLst12 : oLst [a0, a1, a2, a3, a4, a5, a6, a7, a8, a9, a10, a11] = some (.node true .lst [a0, a1, a2, a3, a4, a5, a6, a7, a8, a9, a10, a11]) := oLst_n (by show 12 ≤ 1000; decide)
@[simp] theorem oTup12 : oTup [a0, a1, a2, a3, a4, a5, a6, a7, a8, a9, a10, a11] = some (.node (!frzL [a0, a1, a2, a3, a4, a5, a6, a7, a8, a9, a10, a11]) .tup [a0, a1, a2, a3, a4, a5, a6, a7, a8, a9, a10, a11]) := oTup_n (by show 12 ≤ 1000; decide)
@[simp] theorem oLst13 : oLst [a0, a1, a2, a3, a4, a5, a6, a7, a8, a9, a10, a11, a12] = some (.node true .lst [a0, a1, a2, a3, a4, a5, a6, a7, a8, a9, a10, a11, a12]) := oLst_n (by show 13 ≤ 1000; decide)
@[simp] theorem oTup13 : oTup [a0, a1, a2, a3, a4, a5, a6, a7, a8, a9, a10, a11, a12] = some (.node (!frzL [a0, a1, a2, a3, a4, a5, a6, a7, a8, a9, a10, a11, a12]) .tup [a0, a1, a2, a3, a4, a5, a6, a7, a8, a9, a10, a11, a12]) := oTup_n (by show 13 ≤ 1000; decide)
@[simp] theorem oLst14 : oLst [a0, a1, a2, a3, a4, a5, a6, a7, a8, a9, a10, a11, a12, a13] = some (.node true .lst [a0, a1, a2, a3, a4, a5, a6, a7, a8, a9, a10, a11, a12, a13]) := oLst_n (by show 14 ≤ 1000; decide)
@[simp] theorem oTup14 : oTup [a0, a1, a2, a3, a4, a5, a6, a7, a8, a9, a10, a11, a12, a13] = some (.node (!frzL [a0, a1, a2, a3, a4, a5, a6, a7, a8, a9, a10, a11, a12, a13]) .tup [a0, a1, a2, a3, a4, a5, a6, a7, a8, a9, a10, a11, a12, a13]) := oTup_n (by show 14 ≤ 1000; decide)
@[simp] theorem oLst15 : oLst [a0, a1, a2, a3, a4, a5, a6, a7, a8, a9, a10, a11, a12, a13, a14] = some (.node true .lst [a0, a1, a2, a3, a4, a5, a6, a7, a8, a9, a10, a11, a12, a13, a14]) := oLst_n (by show 15 ≤ 1000; decide)
@[simp] theorem oTup15 : oTup [a0, a1, a2, a3, a4, a5, a6, a7, a8, a9, a10, a11, a12, a13, a14] = some (.node (!frzL [a0, a1, a2, a3, a4, a5, a6, a7, a8, a9, a10, a11, a12, a13, a14]) .tup [a0, a1, a2, a3, a4, a5, a6, a7, a8, a9, a10, a11, a12, a13, a14]) := oTup_n (by show 15 ≤ 1000; decide)
@[simp] theorem oLst16 : oLst [a0, a1, a2, a3, a4, a5, a6, a7, a8, a9, a10, a11, a12, a13, a14, a15] = some (.node true .lst [a0, a1, a2, a3, a4, a5, a6, a7, a8, a9, a10, a11, a12, a13, a14, a15]) := oLst_n (by show 16 ≤ 1000; decide)
@[simp] theorem oTup16 : oTup [a0, a1, a2, a3, a4, a5, a6, a7, a8, a9, a10, a11, a12, a13, a14, a15] = some (.node (!frzL [a0, a1, a2, a3, a4, a5, a6, a7, a8, a9, a10, a11, a12, a13, a14, a15]) .tup [a0, a1, a2, a3, a4, a5, a6, a7, a8, a9, a10, a11, a12, a13, a14, a15]) := oTup_n (by show 16 ≤ 1000; decide)
end
theorem sIx_pos {n d : Nat} {i : Int} (h : 0 ≤ i) : HT.sIx n d (some i) = min i.toNat n := by
  show (if i < 0 then (i + (n : Int)).toNat else min i.toNat n) = _
  rw [if_neg (by omega)]
theorem oSl_take {o : Bool} {xs : List D} {i : Int} (h : 0 ≤ i) (hf : frzL xs = true) : oSl (.node o .lst xs) none (some i) = some (.node true .lst (xs.take i.toNat)) := by
  show (if frzL xs = true then some (D.node true .lst (cutD xs none (some i))) else none) = _
  rw [if_pos hf]
  unfold cutD
  rw [sIx_pos h, show HT.sIx xs.length 0 none = 0 from rfl, List.drop_zero, Nat.sub_zero, ← List.take_eq_take_min]
theorem oSl_drop {o : Bool} {xs : List D} {i : Int} (h : 0 ≤ i) (hf : frzL xs = true) : oSl (.node o .lst xs) (some i) none = some (.node true .lst (xs.drop i.toNat)) := by
  show (if frzL xs = true then some (D.node true .lst (cutD xs (some i) none)) else none) = _
  rw [if_pos hf]
  unfold cutD
  rw [sIx_pos h, show HT.sIx xs.length xs.length none = xs.length from rfl]
  congr 2
  rw [List.take_of_length_le (by rw [List.length_drop]; exact Nat.le_refl _)]
  by_cases z : i.toNat ≤ xs.length
  · rw [Nat.min_eq_left z]
  · rw [Nat.min_eq_right (by omega), List.drop_length, List.drop_eq_nil_of_le (by omega)]
theorem loopD_inv {g : D → Evn → Option Evn} {fb : FS} (I : Nat → Evn → Prop) : ∀ (xs : List D) (k : Nat) (env : Evn), I k env → (∀ i x e, xs[i]? = some x → I (k + i) e → ∃ e1, g x e = some e1 ∧ ∃ e2, (fb e1 = .nxt e2 ∨ fb e1 = .cnt e2) ∧ I (k + i + 1) e2) → ∃ e', loopD g fb xs env = .nxt e' ∧ I (k + xs.length) e'
  | [], k, env, h0, _ => ⟨env, rfl, h0⟩
  | x :: xs, k, env, h0, st => by
    obtain ⟨e1, h1, e2, h2, h3⟩ := st 0 x env rfl h0
    obtain ⟨e', h4, h5⟩ := loopD_inv I xs (k + 1) e2 h3 fun i y e hy hi => by
      have q := st (i + 1) y e hy (by rw [show k + (i + 1) = k + 1 + i from by omega]; exact hi)
      rw [show k + (i + 1) = k + 1 + i from by omega] at q
      exact q
    refine ⟨e', ?_, by rw [List.length_cons, show k + (xs.length + 1) = k + 1 + xs.length from by omega]; exact h5⟩
    unfold loopD
    rw [h1]
    rcases h2 with h2 | h2 <;> simp only [h2] <;> exact h4
theorem loopD_invR {g : D → Evn → Option Evn} {fb : FS} (I : Nat → Evn → Prop) (R : D → Evn → Prop) : ∀ (xs : List D) (k : Nat) (env : Evn), I k env → (∀ i x e, xs[i]? = some x → I (k + i) e → ∃ e1, g x e = some e1 ∧ ((∃ e2, (fb e1 = .nxt e2 ∨ fb e1 = .cnt e2) ∧ I (k + i + 1) e2) ∨ ∃ d e2, fb e1 = .ret d e2 ∧ R d e2)) →
    (∃ e', loopD g fb xs env = .nxt e' ∧ I (k + xs.length) e') ∨ ∃ d e', loopD g fb xs env = .ret d e' ∧ R d e'
  | [], k, env, h0, _ => .inl ⟨env, rfl, h0⟩
  | x :: xs, k, env, h0, st => by
    obtain ⟨e1, h1, h2⟩ := st 0 x env rfl h0
    rcases h2 with ⟨e2, h2, h3⟩ | ⟨d, e2, h2, h3⟩
    · have r := loopD_invR I R xs (k + 1) e2 h3 fun i y e hy hi => by
        have q := st (i + 1) y e hy (by rw [show k + (i + 1) = k + 1 + i from by omega]; exact hi)
        rw [show k + (i + 1) = k + 1 + i from by omega] at q
        exact q
      rw [List.length_cons, show k + (xs.length + 1) = k + 1 + xs.length from by omega]
      unfold loopD
      rw [h1]
      rcases h2 with h2 | h2 <;> simp only [h2] <;> exact r
    · refine .inr ⟨d, e2, ?_, h3⟩
      unfold loopD
      rw [h1]
      simp only [h2]
theorem compD_map {α : Type} {g : D → Evn → Option Evn} {ft : FT} {fe : FE} {env : Evn} {enc h : α → D} : ∀ {xs : List α}, (∀ a ∈ xs, ∃ e1 e2 e3, g (enc a) env = some e1 ∧ ft e1 = .ok true e2 ∧ fe e1 = .ok (h a) e3) → compD g ft fe env (xs.map enc) = some (xs.map h)
  | [], _ => rfl
  | a :: xs, q => by
    obtain ⟨e1, e2, e3, h1, h2, h3⟩ := q a (List.mem_cons_self ..)
    have r := compD_map (fun b hb => q b (List.mem_cons_of_mem _ hb))
    simp only [List.map_cons, compD, h1, h2, h3, r, Option.map_some]
end PL
namespace My
open PySem PySem.Spec L2 DL PL
def flw (xs : List D) (p r s : Int) : D := .node true .lst [.node true .lst xs, .int p, .int r, .int s]
def FlOk (f : D) : Prop := ∃ (xs : List Int) (p r s : Int), f = flw (xs.map .int) p r s ∧ 0 ≤ p ∧ 0 ≤ r ∧ (0 ≤ s ∧ s < 2147483647) ∧ xs.length ≤ 63
theorem log2_sm {n : Int} (h0 : 0 < n) (h : n < 2 ^ 62) : n.natAbs.log2 < 9000 := by
  have hz : n.natAbs ≠ 0 := by omega
  have l : n.natAbs.log2 < 62 := (Nat.log2_lt hz).mpr (by omega)
  omega
theorem draw1 (xs : List D) (p r s n : Int) (hr : 0 < r) (hn : 0 < n) (hn2 : n.natAbs.log2 < 9000) : F__law_draw [flw xs p r s, .int n] = .ret (.int (r % n)) [flw xs p (r / n) s] := by
  unfold F__law_draw runF B__law_draw flw
  simp [hr, hn, hn2, opSetI, ixN]
def hereOf (p s c : Int) : Int := (s ^ 3 + s * 31 + (p + 1) * 69621 + c % 2147483629 * 48271) % 2147483647
theorem draw2 (xs : List D) (p r s n c : Int) (hp : 0 ≤ p) (hr : r ≤ 0) (h0 : 0 ≤ s) (h1 : s < 2147483647) (hn : 0 < n) (hn2 : n.natAbs.log2 < 9000)
    (e : (p < xs.length ∧ atI xs p = some (.int c)) ∨ (¬ p < xs.length ∧ c = 0)) :
    F__law_draw [flw xs p r s, .int n] = if 1000000000000000000 ≤ absI c then .ret (.int (absI c % n)) [flw xs (p + 1) (absI c / n) s]
      else .ret (.int ((hereOf p s c / 8192 + hereOf p s c % 8191 * 40503) % n)) [flw xs (p + 1) r (hereOf p s c)] := by
  have hr' : ¬ (0 < r) := by omega
  have hs : s.natAbs < 18446744073709551616 := by omega
  unfold F__law_draw runF B__law_draw flw
  rcases e with ⟨hpl, e⟩ | ⟨hpl, rfl⟩
  · by_cases hc : 1000000000000000000 ≤ absI c
    · rw [if_pos hc]
      simp [hr', hn, hn2, opSetI, hpl, e, hp, hs, ixN, hc]
    · rw [if_neg hc]
      simp [hr', hn, hn2, opSetI, hpl, e, hp, hs, ixN, hc, hereOf]
  · simp [hr', hn, hn2, opSetI, hpl, hp, hs, ixN, absI, hereOf]
theorem draw_okL {f : D} {n : Int} (h : FlOk f) (h0 : 0 < n) (hn2 : n.natAbs.log2 < 9000) : ∃ r f', F__law_draw [f, .int n] = .ret (.int r) [f'] ∧ FlOk f' ∧ 0 ≤ r ∧ r < n := by
  obtain ⟨xs, p, r, s, rfl, hp, hr, ⟨hs, hs1⟩, hl⟩ := h
  by_cases q : 0 < r
  · exact ⟨_, _, draw1 _ p r s n q h0 hn2, ⟨xs, p, r / n, s, rfl, hp, Int.ediv_nonneg hr (by omega), ⟨hs, hs1⟩, hl⟩, Int.emod_nonneg _ (by omega), Int.emod_lt_of_pos _ h0⟩
  · have e : ∃ c, (p < (xs.map D.int).length ∧ atI (xs.map D.int) p = some (.int c)) ∨ (¬ p < (xs.map D.int).length ∧ c = 0) := by
      by_cases hpl : p < (xs.map D.int).length
      · rw [List.length_map] at hpl
        exact ⟨xs[p.toNat]'(by omega), .inl ⟨by rw [List.length_map]; exact hpl, by rw [atI_pos hp, List.getElem?_map, List.getElem?_eq_getElem (by omega)]; rfl⟩⟩
      · exact ⟨0, .inr ⟨hpl, rfl⟩⟩
    obtain ⟨c, e⟩ := e
    rw [draw2 (xs.map .int) p r s n c hp (by omega) hs hs1 h0 hn2 e]
    split
    · refine ⟨_, _, rfl, ⟨xs, p + 1, _, s, rfl, by omega, Int.ediv_nonneg ?_ (by omega), ⟨hs, hs1⟩, hl⟩, Int.emod_nonneg _ (by omega), Int.emod_lt_of_pos _ h0⟩
      unfold absI
      split <;> omega
    · refine ⟨_, _, rfl, ⟨xs, p + 1, r, _, rfl, by omega, hr, ⟨Int.emod_nonneg _ (by decide), Int.emod_lt_of_pos _ (by decide)⟩, hl⟩, Int.emod_nonneg _ (by omega), Int.emod_lt_of_pos _ h0⟩
theorem draw_ok {f : D} {n : Int} (h : FlOk f) (h0 : 0 < n) (h1 : n < 2 ^ 62) : ∃ r f', F__law_draw [f, .int n] = .ret (.int r) [f'] ∧ FlOk f' ∧ 0 ≤ r ∧ r < n :=
  draw_okL h h0 (log2_sm h0 h1)
end My
namespace My
open PySem PySem.Spec L2 DL PL
def wbD (a b c d : D) : D := .node true (.ins "Web" ["by", "own", "winds", "bonds"]) [a, b, c, d]
def wbZ (a b c d : D) : D := .node false (.ins "Web" ["by", "own", "winds", "bonds"]) [a, b, c, d]
def moD (a b c d : D) : D := .node true (.dic [.inr "by", .inr "own", .inr "winds", .inr "bonds"]) [a, b, c, d]
def moZ (a b c d : D) : D := .node false (.dic [.inr "by", .inr "own", .inr "winds", .inr "bonds"]) [a, b, c, d]
section
variable {a b c d x : D} {env e : Evn} {g : D → D}
@[simp] theorem wb_by : oFld "Web" "by" [wbD a b c d] = some a := rfl
@[simp] theorem wb_own : oFld "Web" "own" [wbD a b c d] = some b := rfl
@[simp] theorem wb_winds : oFld "Web" "winds" [wbD a b c d] = some c := rfl
@[simp] theorem wb_bonds : oFld "Web" "bonds" [wbD a b c d] = some d := rfl
@[simp] theorem wb_own' : opSetF "Web" "own" (wbD a b c d) [x] = some (.non, wbD a x c d) := rfl
@[simp] theorem wb_winds' : opSetF "Web" "winds" (wbD a b c d) [x] = some (.non, wbD a b x d) := rfl
@[simp] theorem wb_bonds' : opSetF "Web" "bonds" (wbD a b c d) [x] = some (.non, wbD a b c x) := rfl
theorem wb_i1 : opSetF "Web" "by" (.node true (.ins "Web" []) []) [a] = some (.non, .node true (.ins "Web" ["by"]) [a]) := rfl
theorem wb_i2 : opSetF "Web" "own" (.node true (.ins "Web" ["by"]) [a]) [b] = some (.non, .node true (.ins "Web" ["by", "own"]) [a, b]) := rfl
theorem wb_i3 : opSetF "Web" "winds" (.node true (.ins "Web" ["by", "own"]) [a, b]) [c] = some (.non, .node true (.ins "Web" ["by", "own", "winds"]) [a, b, c]) := rfl
theorem wb_i4 : opSetF "Web" "bonds" (.node true (.ins "Web" ["by", "own", "winds"]) [a, b, c]) [d] = some (.non, wbD a b c d) := rfl
@[simp] theorem wb_frz : (wbD a b c d).frz = false := rfl
@[simp] theorem wb_non : isNonD (wbD a b c d) = false := rfl
@[simp] theorem wb_m1 : isIns "Web" "points" (wbD a b c d) = true := rfl
@[simp] theorem wb_m2 : isIns "Web" "need_new" (wbD a b c d) = true := rfl
@[simp] theorem wb_m3 : isIns "Web" "need_tie" (wbD a b c d) = true := rfl
@[simp] theorem wb_m4 : isIns "Web" "turned" (wbD a b c d) = true := rfl
@[simp] theorem wb_m5 : isIns "Web" "with_moment" (wbD a b c d) = true := rfl
@[simp] theorem wb_m6 : isIns "Web" "with_span" (wbD a b c d) = true := rfl
@[simp] theorem wb_m7 : isIns "Web" "with_tie" (wbD a b c d) = true := rfl
@[simp] theorem wb_m8 : isIns "Web" "moments" (wbD a b c d) = true := rfl
@[simp] theorem wb_m9 : isIns "Web" "spans" (wbD a b c d) = true := rfl
@[simp] theorem wb_m10 : isIns "Web" "ties" (wbD a b c d) = true := rfl
@[simp] theorem wz_by : oFld "Web" "by" [wbZ a b c d] = some a := rfl
@[simp] theorem wz_own : oFld "Web" "own" [wbZ a b c d] = some b := rfl
@[simp] theorem wz_winds : oFld "Web" "winds" [wbZ a b c d] = some c := rfl
@[simp] theorem wz_bonds : oFld "Web" "bonds" [wbZ a b c d] = some d := rfl
@[simp] theorem wz_frz : (wbZ a b c d).frz = (a.frz && (b.frz && (c.frz && (d.frz && true)))) := rfl
@[simp] theorem wz_non : isNonD (wbZ a b c d) = false := rfl
@[simp] theorem wz_m1 : isIns "Web" "points" (wbZ a b c d) = true := rfl
@[simp] theorem wz_m8 : isIns "Web" "moments" (wbZ a b c d) = true := rfl
@[simp] theorem wz_m9 : isIns "Web" "spans" (wbZ a b c d) = true := rfl
@[simp] theorem wz_m10 : isIns "Web" "ties" (wbZ a b c d) = true := rfl
@[simp] theorem wb_fz : (wbD a b c d).fz = wbZ a.fz b.fz c.fz d.fz := rfl
@[simp] theorem wz_fz : (wbZ a b c d).fz = wbZ a.fz b.fz c.fz d.fz := rfl
@[simp] theorem mo_fz : (moD a b c d).fz = moZ a.fz b.fz c.fz d.fz := rfl
@[simp] theorem mz_fz : (moZ a b c d).fz = moZ a.fz b.fz c.fz d.fz := rfl
@[simp] theorem mz_by : oItm [moZ a b c d, .str "by"] = some a := rfl
@[simp] theorem mz_own : oItm [moZ a b c d, .str "own"] = some b := rfl
@[simp] theorem mz_winds : oItm [moZ a b c d, .str "winds"] = some c := rfl
@[simp] theorem mz_bonds : oItm [moZ a b c d, .str "bonds"] = some d := rfl
@[simp] theorem mz_frz : (moZ a b c d).frz = (a.frz && (b.frz && (c.frz && (d.frz && true)))) := rfl
@[simp] theorem mo_by : oItm [moD a b c d, .str "by"] = some a := rfl
@[simp] theorem mo_own : oItm [moD a b c d, .str "own"] = some b := rfl
@[simp] theorem mo_winds : oItm [moD a b c d, .str "winds"] = some c := rfl
@[simp] theorem mo_bonds : oItm [moD a b c d, .str "bonds"] = some d := rfl
@[simp] theorem mo_own' : opSetI (moD a b c d) [x, .str "own"] = some (.non, moD a x c d) := rfl
@[simp] theorem mo_frz : (moD a b c d).frz = false := rfl
@[simp] theorem mo_pw : pIxH (moD a b c d, g) (.ok (.str "winds") e) = some (c, fun x => g (moD a b x d)) := rfl
@[simp] theorem mo_pb : pIxH (moD a b c d, g) (.ok (.str "bonds") e) = some (d, fun x => g (moD a b c x)) := rfl
end
def oD : Option Int → D
  | none => .non
  | some i => .int i
@[simp] theorem oD_n : isNonD (oD none) = true := rfl
@[simp] theorem oD_s {i : Int} : isNonD (oD (some i)) = false := rfl
@[simp] theorem oD_gt {i j : Int} : oGt [oD (some i), oD (some j)] = some (.bl (decide (j < i))) := rfl
structure Wd where
  e : Str
  b : Str
  lo : Int
  hi : Int
  late : Option Int
structure Bd where
  one : Str
  other : Str
  least : Option Int
  most : Option Int
def Wd.d (w : Wd) : D := .node false .tup [.str w.e, .str w.b, .int w.lo, .int w.hi, oD w.late]
def Bd.d (w : Bd) : D := .node false .tup [.str w.one, .str w.other, oD w.least, oD w.most]
@[simp] theorem oD_frz {o : Option Int} : (oD o).frz = true := by cases o <;> rfl
@[simp] theorem Wd.frz {w : Wd} : w.d.frz = true := by simp [Wd.d]
@[simp] theorem Bd.frz {w : Bd} : w.d.frz = true := by simp [Bd.d]
@[simp] theorem wds_frz {l : List Wd} : frzL (l.map Wd.d) = true := frzL_of fun d h => by obtain ⟨z, _, rfl⟩ := List.mem_map.mp h; exact Wd.frz
@[simp] theorem bds_frz {l : List Bd} : frzL (l.map Bd.d) = true := frzL_of fun d h => by obtain ⟨z, _, rfl⟩ := List.mem_map.mp h; exact Bd.frz
abbrev L (xs : List D) : D := .node true .lst xs
structure Mdl where
  by_ : Int
  own : List Str
  winds : List Wd
  bonds : List Bd
def Mdl.web (m : Mdl) : D := wbD (.int m.by_) (L (m.own.map .str)) (L (m.winds.map Wd.d)) (L (m.bonds.map Bd.d))
def Mdl.dict (m : Mdl) : D := moD (.int m.by_) (L (m.own.map .str)) (L (m.winds.map Wd.d)) (L (m.bonds.map Bd.d))
abbrev LZ (xs : List D) : D := .node false .lst xs
def Mdl.webZ (m : Mdl) : D := wbZ (.int m.by_) (LZ (m.own.map .str)) (LZ (m.winds.map Wd.d)) (LZ (m.bonds.map Bd.d))
def Mdl.dictZ (m : Mdl) : D := moZ (.int m.by_) (LZ (m.own.map .str)) (LZ (m.winds.map Wd.d)) (LZ (m.bonds.map Bd.d))
def Mdl.points (m : Mdl) : List Str := "start" :: (m.own ++ m.winds.map (·.e))
def Mdl.Sm (m : Mdl) : Prop := m.own.length ≤ 100 ∧ m.winds.length ≤ 100 ∧ m.bonds.length ≤ 100
theorem sl_le {n : Nat} (h : n ≤ 10000) : n ≤ sizeLine := by rw [sizeLine_eq]; omega
theorem within_i (i lo hi : Int) : F_is_within [.int i, .int lo, .int hi] = .ret (.bl (decide (lo ≤ i ∧ i ≤ hi))) [] := by
  unfold F_is_within runF B_is_within
  by_cases h : lo ≤ i <;> simp [tab_int, tab_bool, tyKD, look2, h]
theorem web_init {i : Int} (h : 1 ≤ i ∧ i ≤ 1000) : F_Web___init__ [.node true (.ins "Web" []) [], .int i] = .ret .non [wbD (.int i) (L []) (L []) (L [])] := by
  unfold F_Web___init__ runF B_Web___init__
  simp [within_i, h, oLst, wb_i1, wb_i2, wb_i3, wb_i4]
theorem turned_own {a b c d : D} {i : Int} {xs cs ds : List D} (h : 1 ≤ i ∧ i ≤ 1000) (hx : frzL xs = true) (hc : frzL cs = true) (hd : frzL ds = true) : F_Web_turned [wbD (.int i) b (L cs) (L ds), .non, L xs, .non, .non] = .ret (wbD (.int i) (L xs) (L cs) (L ds)) [] := by
  unfold F_Web_turned runF B_Web_turned
  simp [web_init h, hx, hc, hd]
theorem turned_winds {a b c d : D} {i : Int} {xs bs ds : List D} (h : 1 ≤ i ∧ i ≤ 1000) (hx : frzL xs = true) (hc : frzL bs = true) (hd : frzL ds = true) : F_Web_turned [wbD (.int i) (L bs) c (L ds), .non, .non, L xs, .non] = .ret (wbD (.int i) (L bs) (L xs) (L ds)) [] := by
  unfold F_Web_turned runF B_Web_turned
  simp [web_init h, hx, hc, hd]
theorem turned_bonds {a b c d : D} {i : Int} {xs bs cs : List D} (h : 1 ≤ i ∧ i ≤ 1000) (hx : frzL xs = true) (hc : frzL bs = true) (hd : frzL cs = true) : F_Web_turned [wbD (.int i) (L bs) (L cs) d, .non, .non, .non, L xs] = .ret (wbD (.int i) (L bs) (L cs) (L xs)) [] := by
  unfold F_Web_turned runF B_Web_turned
  simp [web_init h, hx, hc, hd]
def abc : Str := "abcdefghijklmnopqrstuvwxyz"
def abcIn (c : Nat) : Bool := decide (c ∈ abc.cps.toList)
def isNm (s : Str) : Bool := decide (1 ≤ s.length ∧ s.length ≤ 8) && s.cps.toList.all abcIn
theorem is_name_s (s : Str) (hs : s.length ≤ 10000) : F_is_name [.str s] = .ret (.bl (isNm s)) [] := by
  unfold F_is_name runF B_is_name isNm
  have e := compD_map (g := gChk .own (gNm 1)) (ft := fYes) (fe := fOp oInAny (aCons (fVar 1) (aCons (fC (.str "abcdefghijklmnopqrstuvwxyz")) aNil))) (env := [.bor none (.str s), .dead]) (enc := fun c => .str ⟨#[c]⟩) (h := fun c => .bl (abcIn c))
    (xs := s.cps.toList) fun c _ => ⟨_, _, _, rfl, rfl, rfl⟩
  have hl : s.cps.size = s.length := rfl
  have hz : s.length ≤ 16777216 := by omega
  have q : blsD (List.map (fun c => D.bl (abcIn c)) s.cps.toList) = some (s.cps.toList.map abcIn) := blsD_map
  by_cases h1 : 1 ≤ s.length
  · have h1i : (1 : Int) ≤ (s.length : Int) := by omega
    by_cases h8 : s.length ≤ 8
    · have h8i : (s.length : Int) ≤ 8 := by omega
      simp [tab_str, tyKD, look2, oLen_s (sl_le hs), h1, h8, h1i, h8i, e, hl, hz, q]
    · have h8i : ¬ (s.length : Int) ≤ 8 := by omega
      simp [tab_str, tyKD, look2, oLen_s (sl_le hs), h1, h8, h1i, h8i]
  · have h1i : ¬ (1 : Int) ≤ (s.length : Int) := by omega
    simp [tab_str, tyKD, look2, oLen_s (sl_le hs), h1, h1i]
theorem inD_str (x : Str) (l : List Str) : inD (.str x) (l.map .str) = some (decide (x ∈ l)) := by
  have h : scVL (l.map D.str) = some (l.map V.str) := by
    induction l with
    | nil => rfl
    | cons a l ih => rw [List.map_cons]; unfold scVL; rw [ih]; rfl
  unfold inD
  rw [h]
  show some (inV (.str x) (l.map V.str)) = _
  congr 1
  unfold inV
  rw [List.any_map, Bool.eq_iff_iff, List.any_eq_true, decide_eq_true_eq]
  constructor
  · rintro ⟨y, hy, h⟩
    have e : y = x := by simpa [eqV] using h
    rw [← e]; exact hy
  · intro h
    exact ⟨x, h, by simp [eqV]⟩
theorem oIn_str (x : Str) (o : Bool) (l : List Str) : oInAny [.str x, .node o .lst (l.map .str)] = some (.bl (decide (x ∈ l))) := by
  show (inD (.str x) (l.map .str)).map D.bl = _
  rw [inD_str]; rfl
theorem oNotIn_str (x : Str) (o : Bool) (l : List Str) : oNotInAny [.str x, .node o .lst (l.map .str)] = some (.bl (!decide (x ∈ l))) := by
  show (inD (.str x) (l.map .str)).map (fun b => D.bl (!b)) = _
  rw [inD_str]; rfl
theorem points_eq (m : Mdl) (h : m.Sm) : F_Web_points [m.web] = .ret (L (m.points.map .str)) [] := by
  unfold F_Web_points runF B_Web_points Mdl.web
  obtain ⟨h1, h2, h3⟩ := h
  have e : ∀ env, compD (gChk (.bor none) (gStarD 1 (gsCons (gNm 1) (gsCons (gNm 2) gsNil)))) fYes (fChk (fVar 1)) [.bor none env, .dead, .dead] (m.winds.map Wd.d) = some (m.winds.map fun w => .str w.e) := fun env =>
    compD_map (fun c _ => ⟨[.bor none env, .own (.str c.e), .own (.node false .lst [.str c.b, .int c.lo, .int c.hi, oD c.late])], [.bor none env, .own (.str c.e), .own (.node false .lst [.str c.b, .int c.lo, .int c.hi, oD c.late])], _, by simp [Wd.d, gStarD, oD_frz], rfl, rfl⟩)
  have f : frzL (m.winds.map fun w => D.str w.e) = true := by
    have q : (m.winds.map fun w => D.str w.e) = (m.winds.map (·.e)).map D.str := by rw [List.map_map]; rfl
    rw [q]; exact frzL_map_str
  simp (disch := omega) [if_pos, e, f, Mdl.points, frzL_append, Function.comp_def]
def Mdl.New (m : Mdl) (s : Str) : Prop := isNm s = true ∧ s ∉ m.points
theorem need_new_ok (m : Mdl) (s : Str) (h : m.Sm) (n : m.New s) (hs : s.length ≤ 10000) : F_Web_need_new [m.web, .str s] = .ret .non [] := by
  have p := points_eq m h
  unfold F_Web_need_new runF B_Web_need_new Mdl.web at *
  simp [is_name_s s hs, n.1, p, oIn_str, n.2]
theorem moment_ok (m : Mdl) (s : Str) (h : m.Sm) (n : m.New s) (hs : s.length ≤ 10000) (hb : 1 ≤ m.by_ ∧ m.by_ ≤ 1000) (hl : m.own.length < 10) : F_Web_with_moment [m.web, .str s] = .ret ({ m with own := m.own ++ [s] } : Mdl).web [] := by
  have p := need_new_ok m s h n hs
  have q := turned_own (a := .non) (b := L (m.own.map .str)) (c := .non) (d := .non) (i := m.by_) (xs := m.own.map .str ++ [.str s]) (cs := m.winds.map Wd.d) (ds := m.bonds.map Bd.d) hb (by simp [frzL_append]) wds_frz bds_frz
  unfold F_Web_with_moment runF B_Web_with_moment Mdl.web at *
  simp (disch := omega) [if_pos, if_neg, p, q, frzL_append]
def LateOk : Option Int → Prop
  | none => True
  | some i => 0 ≤ i ∧ i ≤ 1000
theorem late_ok (o : Option Int) (h : LateOk o) : F_need_late [oD o] = .ret .non [] := by
  unfold F_need_late runF B_need_late
  cases o with
  | none => simp [oD]
  | some i =>
    obtain ⟨h1, h2⟩ := h
    simp [oD, within_i, h1, h2]
theorem lengths_ok (a b : Int) (h : 1 ≤ a ∧ a ≤ b ∧ b ≤ 1000) : F_need_lengths [.int a, .int b] = .ret .non [] := by
  unfold F_need_lengths runF B_need_lengths
  have h1 : 1 ≤ a ∧ a ≤ 1000 := by omega
  have h2 : 1 ≤ b ∧ b ≤ 1000 := by omega
  have h3 : ¬ (b < a) := by omega
  simp [within_i, h1, h2, h3]
theorem wd_eq {e b : Str} {lo hi : Int} {o : Option Int} : D.node false .tup [.str e, .str b, .int lo, .int hi, oD o] = Wd.d ⟨e, b, lo, hi, o⟩ := rfl
theorem bd_eq {e b : Str} {o o' : Option Int} : D.node false .tup [.str e, .str b, oD o, oD o'] = Bd.d ⟨e, b, o, o'⟩ := rfl
theorem span_ok (m : Mdl) (e b : Str) (lo hi : Int) (o : Option Int) (h : m.Sm) (n : m.New e) (hs : e.length ≤ 10000) (hb : 1 ≤ m.by_ ∧ m.by_ ≤ 1000) (hl : m.winds.length < 4) (hw : b = "start" ∨ b ∈ m.own) (h1 : 1 ≤ lo ∧ lo ≤ hi ∧ hi ≤ 1000) (h2 : LateOk o) :
    F_Web_with_span [m.web, .str e, .str b, .int lo, .int hi, oD o] = .ret ({ m with winds := m.winds ++ [⟨e, b, lo, hi, o⟩] } : Mdl).web [] := by
  have p := need_new_ok m e h n hs
  have p1 := lengths_ok lo hi h1
  have p2 := late_ok o h2
  have q := turned_winds (a := .non) (c := L (m.winds.map Wd.d)) (b := .non) (d := .non) (i := m.by_) (xs := m.winds.map Wd.d ++ [Wd.d ⟨e, b, lo, hi, o⟩]) (bs := m.own.map .str) (ds := m.bonds.map Bd.d) hb (by simp [frzL_append]) frzL_map_str bds_frz
  unfold F_Web_with_span runF B_Web_with_span Mdl.web at *
  by_cases hw1 : b = "start"
  · subst hw1
    simp (disch := omega) [if_pos, if_neg, p, q, p1, p2, frzL_append, wd_eq]
  · have hw2 : b ∈ m.own := hw.resolve_left hw1
    simp (disch := omega) [if_pos, if_neg, p, q, p1, p2, frzL_append, wd_eq, hw1, hw2, oNotIn_str]
def BdOk : Option Int → Prop
  | none => True
  | some i => -1000 ≤ i ∧ i ≤ 1000
theorem bound_ok (o : Option Int) (h : BdOk o) : F_is_bound [oD o] = .ret (.bl true) [] := by
  unfold F_is_bound runF B_is_bound
  cases o with
  | none => simp [oD]
  | some i =>
    obtain ⟨h1, h2⟩ := h
    simp [oD, within_i, h1, h2]
def TieOk : Option Int → Option Int → Prop
  | none, none => False
  | some i, none => BdOk (some i)
  | none, some i => BdOk (some i)
  | some i, some j => BdOk (some i) ∧ BdOk (some j) ∧ i ≤ j
theorem TieOk.bd {o o' : Option Int} (h : TieOk o o') : BdOk o ∧ BdOk o' := by
  cases o <;> cases o' <;> simp [TieOk, BdOk] at * <;> omega
theorem need_tie_ok (m : Mdl) (a b : Str) (o o' : Option Int) (h : m.Sm) (ha : a ∈ m.points) (hb : b ∈ m.points) (hne : a ≠ b) (ht : TieOk o o') (hl : m.bonds.length < 40) : F_Web_need_tie [m.web, .str a, .str b, oD o, oD o'] = .ret .non [] := by
  have p := points_eq m h
  have b1 := bound_ok o ht.bd.1
  have b2 := bound_ok o' ht.bd.2
  unfold F_Web_need_tie runF B_Web_need_tie Mdl.web at *
  cases o with
  | none =>
    cases o' with
    | none => exact ht.elim
    | some j => simp (disch := omega) [if_pos, if_neg, loopD, p, oNotIn_str, ha, hb, hne, b1, b2]
  | some i =>
    cases o' with
    | none => simp (disch := omega) [if_pos, if_neg, loopD, p, oNotIn_str, ha, hb, hne, b1, b2]
    | some j =>
      have hij := ht.2.2
      simp (disch := omega) [if_pos, if_neg, loopD, p, oNotIn_str, ha, hb, hne, b1, b2]
theorem tie_ok (m : Mdl) (a b : Str) (o o' : Option Int) (h : m.Sm) (hi : 1 ≤ m.by_ ∧ m.by_ ≤ 1000) (ha : a ∈ m.points) (hb : b ∈ m.points) (hne : a ≠ b) (ht : TieOk o o') (hl : m.bonds.length < 40) :
    F_Web_with_tie [m.web, .str a, .str b, oD o, oD o'] = .ret ({ m with bonds := m.bonds ++ [⟨a, b, o, o'⟩] } : Mdl).web [] := by
  have p := need_tie_ok m a b o o' h ha hb hne ht hl
  have q := turned_bonds (a := .non) (d := L (m.bonds.map Bd.d)) (b := .non) (c := .non) (i := m.by_) (xs := m.bonds.map Bd.d ++ [Bd.d ⟨a, b, o, o'⟩]) (bs := m.own.map .str) (cs := m.winds.map Wd.d) hi (by simp [frzL_append]) frzL_map_str wds_frz
  unfold F_Web_with_tie runF B_Web_with_tie Mdl.web at *
  simp (disch := omega) [if_pos, if_neg, p, q, frzL_append, bd_eq]
theorem moments_eq (m : Mdl) : F_Web_moments [m.web] = .ret (L (m.own.map .str)) [] := by
  unfold F_Web_moments runF B_Web_moments Mdl.web
  simp
theorem spans_eq (m : Mdl) : F_Web_spans [m.web] = .ret (L (m.winds.map Wd.d)) [] := by
  unfold F_Web_spans runF B_Web_spans Mdl.web
  simp
theorem ties_eq (m : Mdl) : F_Web_ties [m.web] = .ret (L (m.bonds.map Bd.d)) [] := by
  unfold F_Web_ties runF B_Web_ties Mdl.web
  simp
def Mdl.told (m : Mdl) : Str := "Web(" ++ istr (m.points.length : Int) ++ " points, " ++ istr (m.bonds.length : Int) ++ " ties, by " ++ istr m.by_ ++ ")"
theorem fzl_wds {l : List Wd} : fzL (l.map Wd.d) = l.map Wd.d := fzL_of_frz _ wds_frz
theorem fzl_bds {l : List Bd} : fzL (l.map Bd.d) = l.map Bd.d := fzL_of_frz _ bds_frz
theorem fzl_str {l : List Str} : fzL (l.map D.str) = l.map D.str := fzL_of_frz _ frzL_map_str
theorem Mdl.web_fz (m : Mdl) : m.web.fz = m.webZ := by simp [Mdl.web, Mdl.webZ, fzl_wds, fzl_bds, fzl_str]
theorem Mdl.dict_fz (m : Mdl) : m.dict.fz = m.dictZ := by simp [Mdl.dict, Mdl.dictZ, fzl_wds, fzl_bds, fzl_str]
theorem pointsZ_eq (m : Mdl) (h : m.Sm) : F_Web_points [m.webZ] = .ret (L (m.points.map .str)) [] := by
  unfold F_Web_points runF B_Web_points Mdl.webZ
  obtain ⟨h1, h2, h3⟩ := h
  have e : ∀ env, compD (gChk .own (gStarD 1 (gsCons (gNm 1) (gsCons (gNm 2) gsNil)))) fYes (fChk (fVar 1)) [.bor none env, .dead, .dead] (m.winds.map Wd.d) = some (m.winds.map fun w => .str w.e) := fun env =>
    compD_map (fun c _ => ⟨[.bor none env, .own (.str c.e), .own (.node false .lst [.str c.b, .int c.lo, .int c.hi, oD c.late])], [.bor none env, .own (.str c.e), .own (.node false .lst [.str c.b, .int c.lo, .int c.hi, oD c.late])], _, by simp [Wd.d, gStarD, oD_frz], rfl, rfl⟩)
  have f : frzL (m.winds.map fun w => D.str w.e) = true := by
    have q : (m.winds.map fun w => D.str w.e) = (m.winds.map (·.e)).map D.str := by rw [List.map_map]; rfl
    rw [q]; exact frzL_map_str
  simp (disch := omega) [if_pos, e, f, Mdl.points, frzL_append, Function.comp_def]
theorem momentsZ_eq (m : Mdl) : F_Web_moments [m.webZ] = .ret (L (m.own.map .str)) [] := by
  unfold F_Web_moments runF B_Web_moments Mdl.webZ
  simp
theorem spansZ_eq (m : Mdl) : F_Web_spans [m.webZ] = .ret (L (m.winds.map Wd.d)) [] := by
  unfold F_Web_spans runF B_Web_spans Mdl.webZ
  simp
theorem tiesZ_eq (m : Mdl) : F_Web_ties [m.webZ] = .ret (L (m.bonds.map Bd.d)) [] := by
  unfold F_Web_ties runF B_Web_ties Mdl.webZ
  simp
theorem lenZ_eq (m : Mdl) (h : m.Sm) : F_Web___len__ [m.webZ] = .ret (.int m.points.length) [] := by
  obtain ⟨h1, h2, h3⟩ := h
  unfold F_Web___len__ runF B_Web___len__ Mdl.webZ Mdl.points
  simp (disch := omega) [if_pos, frzL_append]
theorem reprZ_eq (m : Mdl) (h : m.Sm) (hb : 1 ≤ m.by_ ∧ m.by_ ≤ 1000) : F_Web___repr__ [m.webZ] = .ret (.str m.told) [] := by
  obtain ⟨h1, h2, h3⟩ := h
  have e1 : (istr (m.points.length : Int)).length ≤ 20 := istr_len (by simp [Mdl.points]; omega)
  have e2 : (istr (m.bonds.length : Int)).length ≤ 20 := istr_len (by omega)
  have e3 : (istr m.by_).length ≤ 20 := by
    have q := istr_len (n := m.by_.toNat) (by omega)
    rw [Int.toNat_of_nonneg (by omega)] at q
    exact q
  have t1 : ("Web(" : Str).length = 4 := by decide +kernel
  have t2 : (" points, " : Str).length = 9 := by decide +kernel
  have t3 : (" ties, by " : Str).length = 10 := by decide +kernel
  have t4 : (")" : Str).length = 1 := by decide +kernel
  have pl : (m.points.length : Int) = m.own.length + m.winds.length + 1 := by simp [Mdl.points]
  unfold F_Web___repr__ runF B_Web___repr__ Mdl.webZ Mdl.told
  rw [pl] at e1 ⊢
  simp (disch := omega) [if_pos, frzL_append, e1, e2, e3, t1, t2, t3, t4]
end My
namespace My
open PySem PySem.Spec L2 DL PL
theorem flow_ok (xs : List Int) : ∃ f, F__law_flow [.scr xs] = .ret f [] ∧ FlOk f := by
  refine ⟨flw ((xs.take 63).map .int) 0 0 11, ?_, ⟨xs.take 63, 0, 0, 11, rfl, by decide, by decide, by decide, by rw [List.length_take]; omega⟩⟩
  unfold F__law_flow runF B__law_flow flw
  have e : oSl (.scr xs) none (some 63) = some (.node true .lst ((xs.take 63).map .int)) := by
    show some (D.node true .lst (cutD (xs.map D.int) none (some 63))) = _
    unfold cutD
    have h1 : HT.sIx (xs.map D.int).length 0 none = 0 := rfl
    have h2 : HT.sIx (xs.map D.int).length (xs.map D.int).length (some 63) = min 63 (xs.map D.int).length := HT.sIx_nat _ _ 63
    rw [h1, h2, List.drop_zero, Nat.sub_zero, List.map_take, ← List.take_eq_take_min]
  have f : frzL (List.take 63 (List.map D.int xs)) = true := by rw [← List.map_take]; exact frzL_map_int
  simp [e, f]
theorem pick_ok {f : D} {o : Bool} {xs : List D} (h : FlOk f) (h0 : xs ≠ []) (h1 : xs.length ≤ 1000000) (hf : frzL xs = true) : ∃ x f', F__law_pick [f, .node o .lst xs] = .ret x [f'] ∧ FlOk f' ∧ x ∈ xs := by
  have hl : 0 < xs.length := List.length_pos_iff.mpr h0
  obtain ⟨r, f', e, h2, h3, h4⟩ := draw_ok (n := (xs.length : Int)) h (by omega) (by omega)
  have hx : xs[r.toNat]? = some (xs[r.toNat]'(by omega)) := List.getElem?_eq_getElem (by omega)
  have ha : atI xs r = some (xs[r.toNat]'(by omega)) := (atI_pos h3).trans hx
  have hm : xs[r.toNat]'(by omega) ∈ xs := List.getElem_mem _
  generalize xs[r.toNat]'(by omega) = x at ha hm
  refine ⟨x, f', ?_, h2, hm⟩
  unfold F__law_pick runF B__law_pick
  have hxf : x.frz = true := by rw [frzL_all, List.all_eq_true] at hf; exact hf x hm
  simp [e, ha, hxf]
def poolL : List Str := ["a", "bb", "c", "zzzzzzzz", "ab", "x", "late", "by", "q", "tie", "ends", "waits", "k", "ba"]
theorem pool_d : (D.node true .lst [.str "a", .str "bb", .str "c", .str "zzzzzzzz", .str "ab", .str "x", .str "late", .str "by", .str "q", .str "tie", .str "ends", .str "waits", .str "k", .str "ba"]) = L (poolL.map D.str) := (rfl)
def bodyN : FS := fExpr (fMut 3 (pVar 3) "list" (aCons (fMut 2 (pVar 2) "list" (aCons (fCall F__law_draw [true, false] ar__law_draw_2_ [.slot 0, .val .own] (aCons (fSlot 0) (aCons (fOp oLen (aCons (fVar 2) aNil)) aNil))) aNil) opPopAt) aNil) opAppend)
theorem names_step {f1 : D} {n i : Nat} {pl fd : List Str} {s : Sl} (k1 : FlOk f1) (hl : fd.length + pl.length = 14) (hi : i < n) (hn : n ≤ 14) (k2 : fd.length = i) : ∃ (f2 : D) (pl2 : List Str) (y : Str), bodyN [.own f1, .bor none (.int n), .own (L (pl.map .str)), .own (L (fd.map .str)), .own (.int (0 + (i : Int)))] =
    .nxt [.own f2, .bor none (.int n), .own (L (pl2.map .str)), .own (L ((fd ++ [y]).map .str)), .own (.int (0 + (i : Int)))] ∧ FlOk f2 ∧ (y :: pl2).Perm pl := by
  obtain ⟨r, f2, e1, q1, q2, q3⟩ := draw_ok (n := (pl.length : Int)) k1 (by omega) (by omega)
  have hg : pl[r.toNat]? = some (pl[r.toNat]'(by omega)) := List.getElem?_eq_getElem (by omega)
  generalize pl[r.toNat]'(by omega) = y at hg
  have hy := perm_eraseIdx' pl _ y hg
  have hop := opPopAt_l (xs := pl.map D.str) (i := r) (d := .str y) q2 (by rw [List.length_map]; exact q3) (by rw [List.length_map]; omega) (by rw [List.getElem?_map, hg]; rfl)
  refine ⟨f2, pl.eraseIdx r.toNat, y, ?_, q1, hy⟩
  unfold bodyN
  simp (disch := omega) [if_pos, e1, hop, eraseIdx_map']
theorem names_ok {f : D} {n : Nat} (h : FlOk f) (hn : n ≤ 14) : ∃ (l : List Str) (f' : D), F__law_names [f, .int n] = .ret (L (l.map .str)) [f'] ∧ FlOk f' ∧ l.length = n ∧ ∃ r, (l ++ r).Perm poolL := by
  obtain ⟨e', h1, f', pl, fd, s, rfl, h2, h3, h4⟩ := loopD_inv (g := gChk .own (gNm 4)) (fb := bodyN) (fun i e => ∃ (f' : D) (pl fd : List Str) (s : Sl), e = [.own f', .bor none (.int n), .own (L (pl.map .str)), .own (L (fd.map .str)), s] ∧ FlOk f' ∧ fd.length = i ∧ (fd ++ pl).Perm poolL) (rangeD 0 n) 0
    [.own f, .bor none (.int n), .own (L (poolL.map .str)), .own (L []), .dead] ⟨f, poolL, [], .dead, rfl, h, rfl, List.Perm.refl _⟩ (by
      rintro i x e hx ⟨f1, pl, fd, s, rfl, k1, k2, k3⟩
      obtain ⟨rfl, hi⟩ := rangeD_frz hx
      have hlen := k3.length_eq
      rw [List.length_append, show poolL.length = 14 from rfl] at hlen
      obtain ⟨f2, pl2, y, e2, q1, hy⟩ := names_step (i := i) (s := s) k1 hlen hi hn (by omega)
      refine ⟨[.own f1, .bor none (.int n), .own (L (pl.map .str)), .own (L (fd.map .str)), .own (.int (0 + (i : Int)))], by simp, _, .inl e2, f2, pl2, fd ++ [y], _, rfl, q1, by rw [List.length_append, k2]; simp, ?_⟩
      rw [List.append_assoc]
      exact (List.Perm.append_left fd hy).trans k3)
  rw [rangeD_len, Nat.zero_add] at h3
  refine ⟨fd, f', ?_, h2, h3, pl, h4⟩
  unfold F__law_names runF B__law_names
  unfold bodyN at h1
  simp (disch := omega) [if_pos, pool_d, h1]
end My
namespace My
open PySem PySem.Spec L2 DL PL
theorem mo_eq {a b c d : D} : D.node true (.dic [.inr "by", .inr "own", .inr "winds", .inr "bonds"]) [a, b, c, d] = moD a b c d := (rfl)
theorem model_ok (i : Int) : F__law_model [.int i] = .ret (moD (.int i) (L []) (L []) (L [])) [] := by
  unfold F__law_model runF B__law_model
  simp [mo_eq]
structure WindOk (w : Wd) (own : List Str) (far : Int) : Prop where
  beg : w.b = "start" ∨ w.b ∈ own
  lo : 1 ≤ w.lo
  hi : w.lo ≤ w.hi ∧ w.hi ≤ 2 * far
  late : w.late = none ∨ ∃ i, w.late = some i ∧ 0 ≤ i ∧ i ≤ far
theorem wind_ok {f : D} {e : Str} {own : List Str} {far : Int} (h : FlOk f) (hf : 1 ≤ far ∧ far ≤ 500) (ho : own.length ≤ 100) : ∃ (w : Wd) (f' : D), F__law_wind [f, .str e, L (own.map .str), .int far] = .ret w.d [f'] ∧ FlOk f' ∧ w.e = e ∧ WindOk w own far := by
  obtain ⟨r1, f1, e1, g1, a1, b1⟩ := draw_ok (n := far) h (by omega) (by omega)
  obtain ⟨r2, f2, e2, g2, a2, b2⟩ := draw_ok (n := far) g1 (by omega) (by omega)
  obtain ⟨r3, f3, e3, g3, a3, b3⟩ := draw_ok (n := far) g2 (by omega) (by omega)
  obtain ⟨r4, f4, e4, g4, a4, b4⟩ := draw_ok (n := 5) g3 (by omega) (by omega)
  obtain ⟨x, f5, e5, g5, hx⟩ := pick_ok (o := true) (xs := .str "start" :: own.map .str) g4 (by simp) (by simp; omega) (by simp)
  obtain ⟨b, rfl, hb⟩ : ∃ b : Str, x = .str b ∧ (b = "start" ∨ b ∈ own) := by
    rcases List.mem_cons.mp hx with z | z
    · exact ⟨_, z, .inl rfl⟩
    · obtain ⟨y, hy, rfl⟩ := List.mem_map.mp z
      exact ⟨y, rfl, .inr hy⟩
  have hl : ∃ o : Option Int, atI [D.int 0, .int 0, .int 0, .int (1 + r3), .non] r4 = some (oD o) ∧ (o = none ∨ ∃ i, o = some i ∧ 0 ≤ i ∧ i ≤ far) := by
    have hc : r4 = 0 ∨ r4 = 1 ∨ r4 = 2 ∨ r4 = 3 ∨ r4 = 4 := by omega
    rcases hc with rfl | rfl | rfl | rfl | rfl
    · exact ⟨some 0, rfl, .inr ⟨0, rfl, by omega, by omega⟩⟩
    · exact ⟨some 0, rfl, .inr ⟨0, rfl, by omega, by omega⟩⟩
    · exact ⟨some 0, rfl, .inr ⟨0, rfl, by omega, by omega⟩⟩
    · exact ⟨some (1 + r3), rfl, .inr ⟨_, rfl, by omega, by omega⟩⟩
    · exact ⟨none, rfl, .inl rfl⟩
  obtain ⟨o, ha, hO⟩ := hl
  refine ⟨⟨e, b, 1 + r1, 1 + r1 + r2, o⟩, f5, ?_, g5, rfl, hb, by show 1 ≤ 1 + r1; omega, ⟨by show 1 + r1 ≤ 1 + r1 + r2; omega, by show 1 + r1 + r2 ≤ 2 * far; omega⟩, hO⟩
  unfold F__law_wind runF B__law_wind
  simp (disch := omega) [if_pos, e1, e2, e3, e4, e5, ha, wd_eq, -atI_cons]
structure BondOk (w : Bd) (ps : List Str) (far : Int) : Prop where
  one : w.one ∈ ps
  other : w.other ∈ ps
  ne : w.one ≠ w.other
  tie : TieOk w.least w.most
theorem bond_ok {f : D} {ps : List Str} {far : Int} (h : FlOk f) (hf : 1 ≤ far ∧ far ≤ 250) (hp : 2 ≤ ps.length ∧ ps.length ≤ 100) (hn : ps.Nodup) : ∃ (w : Bd) (f' : D), F__law_bond [f, L (ps.map .str), .int far] = .ret w.d [f'] ∧ FlOk f' ∧ BondOk w ps far := by
  obtain ⟨r1, f1, e1, g1, a1, b1⟩ := draw_ok (n := (ps.length : Int)) h (by omega) (by omega)
  have hg : ps[r1.toNat]? = some (ps[r1.toNat]'(by omega)) := List.getElem?_eq_getElem (by omega)
  generalize ps[r1.toNat]'(by omega) = y at hg
  have hy := perm_eraseIdx' ps _ y hg
  have hop := opPopAt_l (xs := ps.map D.str) (i := r1) (d := .str y) a1 (by rw [List.length_map]; exact b1) (by rw [List.length_map]; omega) (by rw [List.getElem?_map, hg]; rfl)
  have hlen := hy.length_eq
  rw [List.length_cons] at hlen
  have hnd := hy.nodup_iff.mpr hn
  obtain ⟨x, f2, e2, g2, hx⟩ := pick_ok (o := true) (xs := (ps.eraseIdx r1.toNat).map .str) g1 (by intro z; rw [List.map_eq_nil_iff] at z; rw [z] at hlen; simp at hlen; omega) (by rw [List.length_map]; omega) frzL_map_str
  obtain ⟨z, hz, rfl⟩ := List.mem_map.mp hx
  obtain ⟨r3, f3, e3, g3, a3, b3⟩ := draw_ok (n := 3 * far + 1) g2 (by omega) (by omega)
  obtain ⟨r4, f4, e4, g4, a4, b4⟩ := draw_ok (n := 2 * far + 1) g3 (by omega) (by omega)
  obtain ⟨r5, f5, e5, g5, a5, b5⟩ := draw_ok (n := 5) g4 (by omega) (by omega)
  have m1 : y ∈ ps := hy.subset (List.mem_cons_self ..)
  have m2 : z ∈ ps := hy.subset (List.mem_cons_of_mem _ hz)
  have m3 : y ≠ z := fun q => (List.nodup_cons.mp hnd).1 (q ▸ hz)
  by_cases k0 : r5 = 0
  · subst k0
    refine ⟨⟨y, z, some (r3 - far), none⟩, f5, ?_, g5, m1, m2, m3, by constructor <;> omega⟩
    unfold F__law_bond runF B__law_bond
    simp (disch := omega) [if_pos, e1, e2, e3, e4, e5, hop, eraseIdx_map', Bd.d, oD]
  · by_cases k1 : r5 = 1
    · subst k1
      refine ⟨⟨y, z, none, some (r3 - far + r4)⟩, f5, ?_, g5, m1, m2, m3, by constructor <;> omega⟩
      unfold F__law_bond runF B__law_bond
      simp (disch := omega) [if_pos, e1, e2, e3, e4, e5, hop, eraseIdx_map', Bd.d, oD]
    · refine ⟨⟨y, z, some (r3 - far), some (r3 - far + r4)⟩, f5, ?_, g5, m1, m2, m3, ⟨by constructor <;> omega, by constructor <;> omega, by omega⟩⟩
      unfold F__law_bond runF B__law_bond
      simp (disch := omega) [if_pos, if_neg, e1, e2, e3, e4, e5, hop, eraseIdx_map', Bd.d, oD, k0, k1]
theorem lpoints_eq (m : Mdl) (h : m.Sm) : F__law_points [m.dict] = .ret (L (m.points.map .str)) [] := by
  unfold F__law_points runF B__law_points Mdl.dict
  obtain ⟨h1, h2, h3⟩ := h
  have e : ∀ env, compD (gChk (.bor none) (gNm 1)) fYes (fChk (fOp oItm (aCons (fVar 1) (aCons (fC (.int 0)) aNil)))) [.bor none env, .dead] (m.winds.map Wd.d) = some (m.winds.map fun w => .str w.e) := fun env =>
    compD_map (fun c _ => ⟨[.bor none env, .own c.d], [.bor none env, .own c.d], [.bor none env, .own c.d], by simp, rfl, by simp [Wd.d]⟩)
  have f : frzL (m.winds.map fun w => D.str w.e) = true := by
    have q : (m.winds.map fun w => D.str w.e) = (m.winds.map (·.e)).map D.str := by rw [List.map_map]; rfl
    rw [q]; exact frzL_map_str
  simp (disch := omega) [if_pos, e, f, Mdl.points, frzL_append, Function.comp_def]
end My
namespace My
open PySem PySem.Spec L2 DL PL
theorem lpointsZ_eq (m : Mdl) (h : m.Sm) : F__law_points [m.dictZ] = .ret (L (m.points.map .str)) [] := by
  unfold F__law_points runF B__law_points Mdl.dictZ
  obtain ⟨h1, h2, h3⟩ := h
  have e : ∀ env, compD (gChk .own (gNm 1)) fYes (fChk (fOp oItm (aCons (fVar 1) (aCons (fC (.int 0)) aNil)))) [.bor none env, .dead] (m.winds.map Wd.d) = some (m.winds.map fun w => .str w.e) := fun env =>
    compD_map (fun c _ => ⟨[.bor none env, .own c.d], [.bor none env, .own c.d], [.bor none env, .own c.d], by simp, rfl, by simp [Wd.d]⟩)
  have f : frzL (m.winds.map fun w => D.str w.e) = true := by
    have q : (m.winds.map fun w => D.str w.e) = (m.winds.map (·.e)).map D.str := by rw [List.map_map]; rfl
    rw [q]; exact frzL_map_str
  simp (disch := omega) [if_pos, e, f, Mdl.points, frzL_append, Function.comp_def]
def bodyW : FS := fExpr (fMut 6 (pIx (pVar 6) (fC (.str "winds"))) "list" (aCons (fCall F__law_wind [true, false, false, false] ar__law_wind_4_ [.slot 0, .val (.bor 8), .val (.bor 6), .val (.bor 4)] (aCons (fSlot 0) (aCons (fVar 8) (aCons (fOp oItm (aCons (fVar 6) (aCons (fC (.str "own")) aNil))) (aCons (fVar 4) aNil))))) aNil) opAppend)
def bodyB : FS := fExpr (fMut 6 (pIx (pVar 6) (fC (.str "bonds"))) "list" (aCons (fCall F__law_bond [true, false, false] ar__law_bond_3_ [.slot 0, .val .own, .val (.bor 4)] (aCons (fSlot 0) (aCons (fCall F__law_points [false] ar__law_points_1_ [.val (.bor 6)] (aCons (fVar 6) aNil)) (aCons (fVar 4) aNil)))) aNil) opAppend)
theorem bodyW_ok {f n1 n2 n3 l nms s8 s9 x b : D} {far : Int} {own : List Str} {ws : List Wd} {e : Str} (h : FlOk f) (hf : 1 ≤ far ∧ far ≤ 500) (ho : own.length ≤ 100) (hw : ws.length ≤ 100) :
    ∃ (w : Wd) (f' : D), bodyW [.own f, .bor none n1, .bor none n2, .bor none n3, .bor none (.int far), .bor none l, .own (moD x (L (own.map .str)) (L (ws.map Wd.d)) b), .own nms, .own (.str e), .dead] =
      .nxt [.own f', .bor none n1, .bor none n2, .bor none n3, .bor none (.int far), .bor none l, .own (moD x (L (own.map .str)) (L ((ws ++ [w]).map Wd.d)) b), .own nms, .own (.str e), .dead] ∧ FlOk f' ∧ w.e = e ∧ WindOk w own far := by
  obtain ⟨w, f', e1, h1, h2, h3⟩ := wind_ok (e := e) (own := own) h hf ho
  refine ⟨w, f', ?_, h1, h2, h3⟩
  unfold bodyW
  simp (disch := omega) [if_pos, e1]
def SlF (s : Sl) : Prop := s = .dead ∨ ∃ x, s = .own x
theorem bodyB_ok {f n1 n2 n3 l nms : D} {s8' : Sl} (hs : SlF s8') {far : Int} {m : Mdl} {k : Int} (h : FlOk f) (hf : 1 ≤ far ∧ far ≤ 250) (hm : m.Sm) (hp : 2 ≤ m.points.length ∧ m.points.length ≤ 100) (hn : m.points.Nodup) :
    ∃ (w : Bd) (f' : D), bodyB [.own f, .bor none n1, .bor none n2, .bor none n3, .bor none (.int far), .bor none l, .own m.dict, .own nms, s8', .own (.int k)] =
      .nxt [.own f', .bor none n1, .bor none n2, .bor none n3, .bor none (.int far), .bor none l, .own ({ m with bonds := m.bonds ++ [w] } : Mdl).dict, .own nms, s8', .own (.int k)] ∧ FlOk f' ∧ BondOk w m.points far := by
  obtain ⟨w, f', e1, h1, h2⟩ := bond_ok (ps := m.points) h hf hp hn
  refine ⟨w, f', ?_, h1, h2⟩
  have e2 := lpoints_eq m hm
  obtain ⟨_, _, h3⟩ := hm
  unfold bodyB Mdl.dict at *
  rcases hs with rfl | ⟨x, rfl⟩ <;> simp (disch := omega) [if_pos, e1, e2]
structure Drawn (m : Mdl) (n1 n2 n3 : Nat) (far last : Int) : Prop where
  by_ : m.by_ = last
  own : m.own.length = n1
  winds : m.winds.length = n2
  bonds : m.bonds.length = n3
  pool : ∃ r, ((m.own ++ m.winds.map (·.e)) ++ r).Perm poolL
  wok : ∀ w ∈ m.winds, WindOk w m.own far
  bok : ∀ w ∈ m.bonds, BondOk w m.points far
theorem poolL_nodup : poolL.Nodup := by decide +kernel
theorem poolL_start : ("start" : Str) ∉ poolL := by decide +kernel
theorem points_nodup {m : Mdl} (h : ∃ r, ((m.own ++ m.winds.map (·.e)) ++ r).Perm poolL) : m.points.Nodup ∧ ∀ x ∈ m.own ++ m.winds.map (·.e), x ∈ poolL := by
  obtain ⟨r, h⟩ := h
  have h1 := h.nodup_iff.mpr poolL_nodup
  have h2 : ∀ x ∈ m.own ++ m.winds.map (·.e), x ∈ poolL := fun x hx => h.subset (List.mem_append_left _ hx)
  refine ⟨List.nodup_cons.mpr ⟨fun z => poolL_start (h2 _ z), (List.nodup_append.mp h1).1⟩, h2⟩
theorem drawn_ok {f : D} {n1 n2 n3 : Nat} {far last : Int} (h : FlOk f) (h1 : 1 ≤ n1) (h12 : n1 + n2 ≤ 14) (h3 : n3 ≤ 100) (hf : 1 ≤ far ∧ far ≤ 500) (hfb : n3 = 0 ∨ far ≤ 250 := by omega) :
    ∃ (m : Mdl) (f' : D), F__law_drawn [f, .int n1, .int n2, .int n3, .int far, .int last] = .ret m.dict [f'] ∧ FlOk f' ∧ Drawn m n1 n2 n3 far last := by
  obtain ⟨nms, f1, e1, g1, hl, r, hr⟩ := names_ok (n := n1 + n2) h h12
  have e0 := model_ok last
  -- the spans
  obtain ⟨ew, a1, f2, ws, s8, rfl, g2, l2, q2, w2⟩ := loopD_inv (g := gChk .own (gNm 8)) (fb := bodyW) (fun i e => ∃ (f' : D) (ws : List Wd) (s8 : Sl), e = [.own f', .bor none (.int n1), .bor none (.int n2), .bor none (.int n3), .bor none (.int far), .bor none (.int last),
      .own (moD (.int last) (L ((nms.take n1).map .str)) (L (ws.map Wd.d)) (L [])), .own (L (nms.map .str)), s8, .dead] ∧ FlOk f' ∧ (ws.length = i ∧ SlF s8) ∧ ws.map (·.e) = (nms.drop n1).take i ∧ ∀ w ∈ ws, WindOk w (nms.take n1) far) ((nms.drop n1).map D.str) 0
    [.own f1, .bor none (.int n1), .bor none (.int n2), .bor none (.int n3), .bor none (.int far), .bor none (.int last), .own (moD (.int last) (L ((nms.take n1).map .str)) (L []) (L [])), .own (L (nms.map .str)), .dead, .dead] ⟨f1, [], .dead, rfl, g1, ⟨rfl, .inl rfl⟩, by simp, by simp⟩ (by
      rintro i x e hx ⟨f2, ws, s8, rfl, k1, ⟨k2, ks⟩, k3, k4⟩
      rw [List.getElem?_map] at hx
      obtain ⟨y, hy, rfl⟩ := Option.map_eq_some_iff.mp hx
      have hi := (List.getElem?_eq_some_iff.mp hy).1
      rw [List.length_drop, hl] at hi
      obtain ⟨w, f3, b1, b2, b3, b4⟩ := bodyW_ok (n1 := .int n1) (n2 := .int n2) (n3 := .int n3) (l := .int last) (nms := L (nms.map .str)) (s8 := .non) (s9 := .non) (x := .int last) (b := L []) (own := nms.take n1) (ws := ws) (e := y) k1 hf (by rw [List.length_take]; omega) (by omega)
      refine ⟨_, ?_, _, .inl b1, f3, ws ++ [w], _, rfl, b2, ⟨by rw [List.length_append, k2]; simp, .inr ⟨_, rfl⟩⟩, ?_, ?_⟩
      · rcases ks with rfl | ⟨z, rfl⟩ <;> simp
      · rw [List.map_append, k3, List.map_singleton, b3, Nat.zero_add, List.take_add_one, hy]
        rfl
      · intro v hv
        rcases List.mem_append.mp hv with z | z
        · exact k4 v z
        · rw [List.mem_singleton.mp z]; exact b4)
  rw [List.length_map, List.length_drop, hl, Nat.zero_add, Nat.add_sub_cancel_left] at l2 q2
  have q2' : ws.map (·.e) = nms.drop n1 := by rw [q2, List.take_of_length_le (by rw [List.length_drop, hl]; omega)]
  have hown : (nms.take n1).length = n1 := by rw [List.length_take, hl]; omega
  -- the ties
  obtain ⟨eb, a2, f3, bs, s9, rfl, g3, l3, w3⟩ := loopD_inv (g := gChk .own (gNm 9)) (fb := bodyB) (fun i e => ∃ (f' : D) (bs : List Bd) (s9 : Sl), e = [.own f', .bor none (.int n1), .bor none (.int n2), .bor none (.int n3), .bor none (.int far), .bor none (.int last),
      .own (Mdl.mk last (nms.take n1) ws bs).dict, .own (L (nms.map .str)), s8, s9] ∧ FlOk f' ∧ (bs.length = i ∧ SlF s9) ∧ ∀ w ∈ bs, BondOk w (Mdl.mk last (nms.take n1) ws []).points far) (rangeD 0 n3) 0
    [.own f2, .bor none (.int n1), .bor none (.int n2), .bor none (.int n3), .bor none (.int far), .bor none (.int last), .own (Mdl.mk last (nms.take n1) ws []).dict, .own (L (nms.map .str)), s8, .dead] ⟨f2, [], .dead, rfl, g2, ⟨rfl, .inl rfl⟩, by simp⟩ (by
      rintro i x e hx ⟨f3, bs, s9, rfl, k1, ⟨k2, ks⟩, k4⟩
      obtain ⟨rfl, hi⟩ := rangeD_frz hx
      have hpl : (Mdl.mk last (nms.take n1) ws bs).points.length = 1 + n1 + n2 := by simp [Mdl.points, hown, l2.1]; omega
      have hpn : (Mdl.mk last (nms.take n1) ws bs).points.Nodup := (points_nodup (m := ⟨last, nms.take n1, ws, bs⟩) ⟨r, by show ((nms.take n1 ++ ws.map (·.e)) ++ r).Perm poolL; rw [q2', List.take_append_drop]; exact hr⟩).1
      obtain ⟨w, f4, b1, b2, b3⟩ := bodyB_ok (n1 := .int n1) (n2 := .int n2) (n3 := .int n3) (l := .int last) (nms := L (nms.map .str)) (k := 0 + (i : Int)) (m := ⟨last, nms.take n1, ws, bs⟩) l2.2 k1 ⟨hf.1, by rcases hfb with z | z <;> omega⟩ ⟨by show (nms.take n1).length ≤ 100; omega, by show ws.length ≤ 100; omega, by show bs.length ≤ 100; omega⟩ (by omega) hpn
      refine ⟨_, ?_, _, .inl b1, f4, bs ++ [w], _, rfl, b2, ⟨by rw [List.length_append, k2]; simp, .inr ⟨_, rfl⟩⟩, ?_⟩
      · rcases ks with rfl | ⟨z, rfl⟩ <;> rcases l2.2 with rfl | ⟨z', rfl⟩ <;> simp
      · intro v hv
        rcases List.mem_append.mp hv with z | z
        · exact k4 v z
        · rw [List.mem_singleton.mp z]; exact b3)
  rw [rangeD_len, Nat.zero_add] at l3
  refine ⟨⟨last, nms.take n1, ws, bs⟩, f3, ?_, g3, rfl, hown, l2.1, l3.1, ⟨r, by show ((nms.take n1 ++ ws.map (·.e)) ++ r).Perm poolL; rw [q2', List.take_append_drop]; exact hr⟩, w2, w3⟩
  unfold F__law_drawn runF B__law_drawn
  unfold bodyW at a1
  unfold bodyB Mdl.dict at a2
  simp only [List.map_nil] at a2
  unfold Mdl.dict
  have c1 : (0 : Int) ≤ (n1 : Int) + (n2 : Int) := by omega
  have e1' : F__law_names [f, .int ((n1 : Int) + (n2 : Int))] = .ret (L (nms.map .str)) [f1] := by rw [← e1]; simp
  simp (disch := first | omega | exact frzL_map_str) [if_pos, e0, e1', a1, a2, oSl_take, oSl_drop, fzl_str, ← List.map_take, ← List.map_drop]
end My
namespace My
open PySem PySem.Spec L2 DL PL
theorem pool_isNm : ∀ x ∈ poolL, isNm x = true ∧ x.length ≤ 10000 := by
  have q : (poolL.all fun x => isNm x && decide (x.length ≤ 10000)) = true := by decide +kernel
  intro x hx
  have z := List.all_eq_true.mp q x hx
  rw [Bool.and_eq_true, decide_eq_true_eq] at z
  exact z
structure MdlOk (m : Mdl) : Prop where
  by_ : 1 ≤ m.by_ ∧ m.by_ ≤ 1000
  nd : m.points.Nodup
  nm : ∀ x ∈ m.own ++ m.winds.map (·.e), isNm x = true ∧ x.length ≤ 10000
  l1 : m.own.length ≤ 10
  l2 : m.winds.length ≤ 4
  l3 : m.bonds.length ≤ 40
  wok : ∀ w ∈ m.winds, (w.b = "start" ∨ w.b ∈ m.own) ∧ (1 ≤ w.lo ∧ w.lo ≤ w.hi ∧ w.hi ≤ 1000) ∧ LateOk w.late
  bok : ∀ w ∈ m.bonds, w.one ∈ m.points ∧ w.other ∈ m.points ∧ w.one ≠ w.other ∧ TieOk w.least w.most
theorem MdlOk.sm {m : Mdl} (h : MdlOk m) : m.Sm := ⟨by have := h.l1; omega, by have := h.l2; omega, by have := h.l3; omega⟩
theorem Drawn.ok {m : Mdl} {n1 n2 n3 : Nat} {far last : Int} (h : Drawn m n1 n2 n3 far last) (h1 : n1 ≤ 10) (h2 : n2 ≤ 4) (h3 : n3 ≤ 40) (hf : far ≤ 500) (hl : 1 ≤ last ∧ last ≤ 1000) : MdlOk m where
  by_ := by rw [h.by_]; exact hl
  nd := (points_nodup h.pool).1
  nm := fun x hx => pool_isNm x ((points_nodup h.pool).2 x hx)
  l1 := by rw [h.own]; exact h1
  l2 := by rw [h.winds]; exact h2
  l3 := by rw [h.bonds]; exact h3
  wok := fun w hw => by
    have q := h.wok w hw
    refine ⟨q.beg, ⟨q.lo, q.hi.1, ?_⟩, ?_⟩
    · have := q.hi.2; omega
    · rcases q.late with z | ⟨i, z, z1, z2⟩
      · rw [z]; trivial
      · rw [z]; exact ⟨z1, by omega⟩
  bok := fun w hw => by
    have q := h.bok w hw
    exact ⟨q.one, q.other, q.ne, q.tie⟩
def body1 : FS := (fAsg .own (fCall F_Web_with_moment [false, false] ar_Web_with_moment_2_ [.val (.bor 1), .val (.bor 2)] (fRcv "Web" "with_moment" (fVar 1) (aCons (fVar 2) aNil))) (gNm 1))
def body2 : FS := (fAsg .own (fCall F_Web_with_span [false, false, false, false, false, false] ar_Web_with_span_5_late [.val (.bor 1), .val (.bor 3), .val (.bor 4), .val (.bor 5), .val (.bor 6), .val (.bor 7)] (fRcv "Web" "with_span" (fVar 1) (aApp (aCons (fVar 3) (aCons (fVar 4) (aCons (fVar 5) (aCons (fVar 6) aNil)))) (aCons (fVar 7) aNil)))) (gNm 1))
def body3 : FS := (fAsg .own (fCall F_Web_with_tie [false, false, false, false, false] ar_Web_with_tie_3_least_most [.val (.bor 1), .val (.bor 8), .val (.bor 9), .val (.bor 10), .val (.bor 11)] (fRcv "Web" "with_tie" (fVar 1) (aApp (aCons (fVar 8) (aCons (fVar 9) aNil)) (aCons (fVar 10) (aCons (fVar 11) aNil))))) (gNm 1))
section
variable {m : Mdl}
@[simp] theorem web_frz : m.web.frz = false := (rfl)
@[simp] theorem web_m5 : isIns "Web" "with_moment" m.web = true := (rfl)
@[simp] theorem web_m6 : isIns "Web" "with_span" m.web = true := (rfl)
@[simp] theorem web_m7 : isIns "Web" "with_tie" m.web = true := (rfl)
@[simp] theorem web_m8 : isIns "Web" "moments" m.web = true := (rfl)
@[simp] theorem web_m9 : isIns "Web" "spans" m.web = true := (rfl)
@[simp] theorem web_m10 : isIns "Web" "ties" m.web = true := (rfl)
@[simp] theorem web_m1 : isIns "Web" "points" m.web = true := (rfl)
@[simp] theorem dict_frz : m.dict.frz = false := (rfl)
@[simp] theorem dict_by : oItm [m.dict, .str "by"] = some (.int m.by_) := (rfl)
@[simp] theorem dict_own : oItm [m.dict, .str "own"] = some (L (m.own.map .str)) := (rfl)
@[simp] theorem dict_winds : oItm [m.dict, .str "winds"] = some (L (m.winds.map Wd.d)) := (rfl)
@[simp] theorem dict_bonds : oItm [m.dict, .str "bonds"] = some (L (m.bonds.map Bd.d)) := (rfl)
end
def E12 (a w s2 s3 s4 s5 s6 s7 s8 s9 s10 s11 : Sl) : Evn := [a, w, s2, s3, s4, s5, s6, s7, s8, s9, s10, s11]
theorem lweb_ok (m : Mdl) (h : MdlOk m) : F__law_web [m.dict] = .ret m.web [] := by
  have nd : (m.own ++ m.winds.map (·.e)).Nodup ∧ ∀ x ∈ m.own ++ m.winds.map (·.e), x ≠ "start" := by
    have q := List.nodup_cons.mp h.nd
    exact ⟨q.2, fun x hx z => q.1 (z ▸ hx)⟩
  obtain ⟨nd1, nd2⟩ := nd
  obtain ⟨e1, a1, s2, rfl, f2⟩ := loopD_inv (g := gChk (.bor none) (gNm 2)) (fb := body1) (fun i e => ∃ s2, e = E12 (.bor none m.dict) (.own (Mdl.mk m.by_ (m.own.take i) [] []).web) s2 .dead .dead .dead .dead .dead .dead .dead .dead .dead ∧ SlF s2) (m.own.map D.str) 0
    (E12 (.bor none m.dict) (.own (Mdl.mk m.by_ [] [] []).web) .dead .dead .dead .dead .dead .dead .dead .dead .dead .dead) ⟨.dead, rfl, .inl rfl⟩ (by
      rintro i x e hx ⟨s2, rfl, k⟩
      rw [List.getElem?_map] at hx
      obtain ⟨y, hy, rfl⟩ := Option.map_eq_some_iff.mp hx
      obtain ⟨hi, hy'⟩ := List.getElem?_eq_some_iff.mp hy
      have hy2 : m.own.take (i + 1) = m.own.take i ++ [y] := by rw [List.take_add_one, hy]; rfl
      have hym : y ∈ m.own := hy' ▸ List.getElem_mem _
      have hyn : y ∉ m.own.take i := fun z => by
        have q := (List.nodup_append.mp nd1).1
        have q2 : (m.own.take (i + 1)).Nodup := q.sublist (List.take_sublist _ _)
        rw [hy2] at q2
        exact (List.nodup_append.mp q2).2.2 _ z _ (List.mem_singleton.mpr rfl) rfl
      have hnm := h.nm y (List.mem_append_left _ hym)
      have c := moment_ok ⟨m.by_, m.own.take i, [], []⟩ y ⟨by show (m.own.take i).length ≤ 100; rw [List.length_take]; have := h.l1; omega, by simp, by simp⟩ ⟨hnm.1, by
        simp only [Mdl.points, List.map_nil, List.append_nil, List.mem_cons, not_or]
        exact ⟨nd2 y (List.mem_append_left _ hym), hyn⟩⟩ hnm.2 h.by_ (by show (m.own.take i).length < 10; rw [List.length_take]; have := h.l1; omega)
      refine ⟨E12 (.bor none m.dict) (.own (Mdl.mk m.by_ (m.own.take i) [] []).web) (.own (.str y)) .dead .dead .dead .dead .dead .dead .dead .dead .dead, ?_, E12 (.bor none m.dict) (.own (Mdl.mk m.by_ (m.own.take i ++ [y]) [] []).web) (.own (.str y)) .dead .dead .dead .dead .dead .dead .dead .dead .dead, .inl ?_, .own (.str y), by rw [Nat.zero_add, hy2], .inr ⟨_, rfl⟩⟩
      · rcases k with rfl | ⟨z, rfl⟩ <;> simp [E12]
      · unfold body1 E12
        dsimp only at c
        simp [c])
  rw [List.length_map, Nat.zero_add, List.take_length] at a1
  obtain ⟨e2, a2, s3, s4, s5, s6, s7, rfl, f3, f4, f5, f6, f7⟩ := loopD_inv (g := gChk (.bor none) (gTu (gsCons (gNm 3) (gsCons (gNm 4) (gsCons (gNm 5) (gsCons (gNm 6) (gsCons (gNm 7) gsNil))))))) (fb := body2)
    (fun i e => ∃ s3 s4 s5 s6 s7, e = E12 (.bor none m.dict) (.own (Mdl.mk m.by_ m.own (m.winds.take i) []).web) s2 s3 s4 s5 s6 s7 .dead .dead .dead .dead ∧ SlF s3 ∧ SlF s4 ∧ SlF s5 ∧ SlF s6 ∧ SlF s7) (m.winds.map Wd.d) 0
    (E12 (.bor none m.dict) (.own (Mdl.mk m.by_ m.own [] []).web) s2 .dead .dead .dead .dead .dead .dead .dead .dead .dead) ⟨.dead, .dead, .dead, .dead, .dead, rfl, .inl rfl, .inl rfl, .inl rfl, .inl rfl, .inl rfl⟩ (by
      rintro i x e hx ⟨s3, s4, s5, s6, s7, rfl, k3, k4, k5, k6, k7⟩
      rw [List.getElem?_map] at hx
      obtain ⟨⟨ye, yb, lo, hi', o⟩, hy, rfl⟩ := Option.map_eq_some_iff.mp hx
      obtain ⟨hi, hy'⟩ := List.getElem?_eq_some_iff.mp hy
      have hy2 : m.winds.take (i + 1) = m.winds.take i ++ [⟨ye, yb, lo, hi', o⟩] := by rw [List.take_add_one, hy]; rfl
      have hym : (⟨ye, yb, lo, hi', o⟩ : Wd) ∈ m.winds := hy' ▸ List.getElem_mem _
      have hye : ye ∈ m.winds.map (·.e) := List.mem_map.mpr ⟨_, hym, rfl⟩
      have q := List.nodup_append.mp nd1
      have hyn : ye ∉ (m.winds.take i).map (·.e) := fun z => by
        have q2 : ((m.winds.take (i + 1)).map (·.e)).Nodup := by rw [List.map_take]; exact q.2.1.sublist (List.take_sublist _ _)
        rw [hy2, List.map_append] at q2
        exact (List.nodup_append.mp q2).2.2 _ z _ (List.mem_singleton.mpr rfl) rfl
      have hnm := h.nm ye (List.mem_append_right _ hye)
      have hw := h.wok _ hym
      have c := span_ok ⟨m.by_, m.own, m.winds.take i, []⟩ ye yb lo hi' o ⟨by have := h.l1; show m.own.length ≤ 100; omega, by show (m.winds.take i).length ≤ 100; rw [List.length_take]; have := h.l2; omega, by simp⟩ ⟨hnm.1, by
        simp only [Mdl.points, List.mem_cons, List.mem_append, not_or]
        exact ⟨nd2 ye (List.mem_append_right _ hye), fun z => q.2.2 _ z _ hye rfl, hyn⟩⟩ hnm.2 h.by_ (by show (m.winds.take i).length < 4; rw [List.length_take]; have := h.l2; omega) hw.1 hw.2.1 hw.2.2
      refine ⟨E12 (.bor none m.dict) (.own (Mdl.mk m.by_ m.own (m.winds.take i) []).web) s2 (.own (.str ye)) (.own (.str yb)) (.own (.int lo)) (.own (.int hi')) (.own (oD o)) .dead .dead .dead .dead, ?_,
        E12 (.bor none m.dict) (.own (Mdl.mk m.by_ m.own (m.winds.take i ++ [⟨ye, yb, lo, hi', o⟩]) []).web) s2 (.own (.str ye)) (.own (.str yb)) (.own (.int lo)) (.own (.int hi')) (.own (oD o)) .dead .dead .dead .dead, .inl ?_, _, _, _, _, _, by rw [Nat.zero_add, hy2], .inr ⟨_, rfl⟩, .inr ⟨_, rfl⟩, .inr ⟨_, rfl⟩, .inr ⟨_, rfl⟩, .inr ⟨_, rfl⟩⟩
      · rcases f2 with rfl | ⟨z, rfl⟩ <;> rcases k3 with rfl | ⟨z3, rfl⟩ <;> rcases k4 with rfl | ⟨z4, rfl⟩ <;> rcases k5 with rfl | ⟨z5, rfl⟩ <;> rcases k6 with rfl | ⟨z6, rfl⟩ <;> rcases k7 with rfl | ⟨z7, rfl⟩ <;> simp [E12, Wd.d]
      · unfold body2 E12
        dsimp only at c
        rcases f2 with rfl | ⟨z, rfl⟩ <;> simp [c])
  rw [List.length_map, Nat.zero_add, List.take_length] at a2
  have sm := h.sm
  obtain ⟨e3, a3, s8, s9, s10, s11, rfl, f8, f9, f10, f11⟩ := loopD_inv (g := gChk (.bor none) (gTu (gsCons (gNm 8) (gsCons (gNm 9) (gsCons (gNm 10) (gsCons (gNm 11) gsNil)))))) (fb := body3)
    (fun i e => ∃ s8 s9 s10 s11, e = E12 (.bor none m.dict) (.own (Mdl.mk m.by_ m.own m.winds (m.bonds.take i)).web) s2 s3 s4 s5 s6 s7 s8 s9 s10 s11 ∧ SlF s8 ∧ SlF s9 ∧ SlF s10 ∧ SlF s11) (m.bonds.map Bd.d) 0
    (E12 (.bor none m.dict) (.own (Mdl.mk m.by_ m.own m.winds []).web) s2 s3 s4 s5 s6 s7 .dead .dead .dead .dead) ⟨.dead, .dead, .dead, .dead, rfl, .inl rfl, .inl rfl, .inl rfl, .inl rfl⟩ (by
      rintro i x e hx ⟨s8, s9, s10, s11, rfl, k8, k9, k10, k11⟩
      rw [List.getElem?_map] at hx
      obtain ⟨⟨ya, yb, o, o'⟩, hy, rfl⟩ := Option.map_eq_some_iff.mp hx
      obtain ⟨hi, hy'⟩ := List.getElem?_eq_some_iff.mp hy
      have hy2 : m.bonds.take (i + 1) = m.bonds.take i ++ [⟨ya, yb, o, o'⟩] := by rw [List.take_add_one, hy]; rfl
      have hym : (⟨ya, yb, o, o'⟩ : Bd) ∈ m.bonds := hy' ▸ List.getElem_mem _
      have hw := h.bok _ hym
      have c := tie_ok ⟨m.by_, m.own, m.winds, m.bonds.take i⟩ ya yb o o' ⟨sm.1, sm.2.1, by show (m.bonds.take i).length ≤ 100; rw [List.length_take]; have := h.l3; omega⟩ h.by_ hw.1 hw.2.1 hw.2.2.1 hw.2.2.2 (by show (m.bonds.take i).length < 40; rw [List.length_take]; have := h.l3; omega)
      refine ⟨E12 (.bor none m.dict) (.own (Mdl.mk m.by_ m.own m.winds (m.bonds.take i)).web) s2 s3 s4 s5 s6 s7 (.own (.str ya)) (.own (.str yb)) (.own (oD o)) (.own (oD o')), ?_,
        E12 (.bor none m.dict) (.own (Mdl.mk m.by_ m.own m.winds (m.bonds.take i ++ [⟨ya, yb, o, o'⟩])).web) s2 s3 s4 s5 s6 s7 (.own (.str ya)) (.own (.str yb)) (.own (oD o)) (.own (oD o')), .inl ?_, _, _, _, _, by rw [Nat.zero_add, hy2], .inr ⟨_, rfl⟩, .inr ⟨_, rfl⟩, .inr ⟨_, rfl⟩, .inr ⟨_, rfl⟩⟩
      · have k : ∀ j s, SlF s → killS j s = s := fun j s q => by rcases q with rfl | ⟨z, rfl⟩ <;> rfl
        simp [E12, Bd.d, k _ _ f2, k _ _ f3, k _ _ f4, k _ _ f5, k _ _ f6, k _ _ f7, k _ _ k8, k _ _ k9, k _ _ k10, k _ _ k11]
      · unfold body3 E12
        dsimp only at c
        have k : ∀ j s, SlF s → killS j s = s := fun j s q => by rcases q with rfl | ⟨z, rfl⟩ <;> rfl
        simp [c, k _ _ f2, k _ _ f3, k _ _ f4, k _ _ f5, k _ _ f6, k _ _ f7])
  rw [List.length_map, Nat.zero_add, List.take_length] at a3
  have e0 := web_init (i := m.by_) h.by_
  unfold F__law_web runF B__law_web
  unfold body1 E12 at a1
  unfold body2 E12 at a2
  unfold body3 E12 at a3
  have w0 : wbD (.int m.by_) (L []) (L []) (L []) = (Mdl.mk m.by_ [] [] []).web := rfl
  simp [e0, w0, a1, a2, a3, wds_frz, bds_frz]
end My
namespace My
open PySem PySem.Spec L2 DL PL
def stepI (g : D → Evn → Option Evn) (fb : FS) (x : D) (e : Evn) (I : Evn → Prop) (R : D → Evn → Prop) : Prop :=
  match g x e with
  | none => False
  | some e1 => match fb e1 with
    | .nxt e2 => I e2
    | .cnt e2 => I e2
    | .ret d e2 => R d e2
    | _ => False
theorem stepI_elim {g : D → Evn → Option Evn} {fb : FS} {x : D} {e : Evn} {I : Evn → Prop} {R : D → Evn → Prop} (h : stepI g fb x e I R) : ∃ e1, g x e = some e1 ∧ ((∃ e2, (fb e1 = .nxt e2 ∨ fb e1 = .cnt e2) ∧ I e2) ∨ ∃ d e2, fb e1 = .ret d e2 ∧ R d e2) := by
  unfold stepI at h
  cases hg : g x e with
  | none => rw [hg] at h; exact h.elim
  | some e1 =>
    rw [hg] at h
    refine ⟨e1, rfl, ?_⟩
    simp only [] at h
    cases hf : fb e1 with
    | nxt e2 => rw [hf] at h; exact .inl ⟨e2, .inl rfl, h⟩
    | cnt e2 => rw [hf] at h; exact .inl ⟨e2, .inr rfl, h⟩
    | ret d e2 => rw [hf] at h; exact .inr ⟨d, e2, rfl, h⟩
    | _ => rw [hf] at h; exact h.elim
theorem loop_ixR {α : Type} {g : D → Evn → Option Evn} {fb : FS} (enc : α → D) (l : List α) (I : List α → Evn → Prop) (R : D → Evn → Prop) (env : Evn) (h0 : I [] env) (st : ∀ p a q e, l = p ++ a :: q → I p e → stepI g fb (enc a) e (I (p ++ [a])) R) :
    (∃ e', loopD g fb (l.map enc) env = .nxt e' ∧ I l e') ∨ ∃ d e', loopD g fb (l.map enc) env = .ret d e' ∧ R d e' := by
  have r := loopD_invR (g := g) (fb := fb) (fun k e => I (l.take k) e) R (l.map enc) 0 env h0 (by
    intro i x e hx hi
    rw [List.getElem?_map] at hx
    rw [Nat.zero_add] at hi
    cases hy : l[i]? with
    | none => rw [hy] at hx; cases hx
    | some a =>
      rw [hy] at hx
      cases hx
      have hl : i < l.length := by
        rcases Nat.lt_or_ge i l.length with h | h
        · exact h
        · rw [List.getElem?_eq_none h] at hy; cases hy
      have hd : l = l.take i ++ a :: l.drop (i + 1) := by
        have e1 : l.drop i = a :: l.drop (i + 1) := by
          rw [List.drop_eq_getElem_cons hl]
          rw [List.getElem?_eq_getElem hl] at hy
          cases hy
          rfl
        rw [← e1, List.take_append_drop]
      have ht : l.take (i + 1) = l.take i ++ [a] := by
        rw [List.take_add_one, hy]
        rfl
      have q := stepI_elim (st _ a _ e hd hi)
      rw [Nat.zero_add, ht]
      exact q)
  rw [List.length_map, Nat.zero_add, List.take_length] at r
  exact r
theorem loop_ix {α : Type} {g : D → Evn → Option Evn} {fb : FS} (enc : α → D) (l : List α) (I : List α → Evn → Prop) (env : Evn) (h0 : I [] env) (st : ∀ p a q e, l = p ++ a :: q → I p e → stepI g fb (enc a) e (I (p ++ [a])) (fun _ _ => False)) :
    ∃ e', loopD g fb (l.map enc) env = .nxt e' ∧ I l e' := by
  rcases loop_ixR enc l I (fun _ _ => False) env h0 st with h | ⟨_, _, _, h⟩
  · exact h
  · exact h.elim
theorem killS_f {s : Sl} {j : Nat} (h : SlF s) : killS j s = s := by
  rcases h with rfl | ⟨x, rfl⟩ <;> rfl
@[simp] theorem slF_dead : SlF .dead := .inl rfl
@[simp] theorem slF_own {x : D} : SlF (.own x) := .inr ⟨x, rfl⟩
def Pln : Nat → D → Prop
  | 0, _ => False
  | n + 1, d => match d with
    | .non => True
    | .bl _ => True
    | .int _ => True
    | .str _ => True
    | .node _ .lst xs => xs.length ≤ 100000 ∧ ∀ x ∈ xs, Pln n x
    | .node _ .tup xs => xs.length ≤ 100000 ∧ ∀ x ∈ xs, Pln n x
    | .node _ (.dic ks) xs => (xs.length ≤ 100000 ∧ ∀ x ∈ xs, Pln n x) ∧ xs.length = ks.length ∧ ks.Nodup
    | _ => False
theorem blsD_true {α : Type} {l : List α} : blsD (l.map fun _ => D.bl true) = some (l.map fun _ => true) := blsD_map (f := fun _ => true)
theorem fz_get {xs ys : List D} (h : fzL xs = fzL ys) : xs.length = ys.length ∧ ∀ (i : Nat) (x y : D), xs[i]? = some x → ys[i]? = some y → x.fz = y.fz := by
  rw [fzL_map, fzL_map] at h
  refine ⟨by have := congrArg List.length h; simpa using this, fun i x y hx hy => ?_⟩
  have q := congrArg (fun l => l[i]?) h
  simp only [List.getElem?_map, hx, hy, Option.map_some, Option.some.injEq] at q
  exact q
def cmpS (F : List D → Fo) : FE := fCall F [false, false] ar__law_same_2_ [.val (.bor 0), .val (.bor 1)] (aCons (fOp oItm (aCons (fVar 0) (aCons (fVar 3) aNil))) (aCons (fOp oItm (aCons (fVar 1) (aCons (fVar 3) aNil))) aNil))
theorem cmpS_all {F : List D → Fo} {d d' : D} {xs ys : List D} (hd : ∀ i : Int, oItm [d, .int i] = atI xs i) (hd' : ∀ i : Int, oItm [d', .int i] = atI ys i) (hl : xs.length = ys.length) (h : ∀ (i : Nat) (x y : D), xs[i]? = some x → ys[i]? = some y → F [x, y] = .ret (.bl true) []) :
    compD (gChk .own (gNm 3)) fYes (cmpS F) [.bor none d, .bor none d', .dead, .dead] (rangeD 0 ys.length) = some ((List.range ys.length).map fun _ => .bl true) := by
  unfold rangeD
  refine compD_map fun i hi => ?_
  have hi' := List.mem_range.mp hi
  have e1 : atI xs (0 + (i : Int)) = some (xs[i]'(by omega)) := by rw [Int.zero_add, atI_pos (by omega), Int.toNat_natCast]; exact List.getElem?_eq_getElem (by omega)
  have e2 : atI ys (0 + (i : Int)) = some (ys[i]'(by omega)) := by rw [Int.zero_add, atI_pos (by omega), Int.toNat_natCast]; exact List.getElem?_eq_getElem (by omega)
  have e3 := h i _ _ (List.getElem?_eq_getElem (by omega)) (List.getElem?_eq_getElem hi')
  generalize xs[i]'(by omega) = x at e1 e3
  generalize ys[i]'(by omega) = y at e2 e3
  refine ⟨[.bor none d, .bor none d', .dead, .own (.int (0 + (i : Int)))], [.bor none d, .bor none d', .dead, .own (.int (0 + (i : Int)))], [.bor none d, .bor none d', .dead, .own (.int (0 + (i : Int)))], by simp, rfl, ?_⟩
  unfold cmpS
  simp only [ev_fCall, ev_aCons, ev_fOp, ev_fVar, ev_getS, gt0, gt1, gt3, Rs.bind_ok, Rs.map_ok, ev_aNil, optR_some, hd, hd', e1, e2]
  simp [e3]
theorem look_at {κ α : Type} [DecidableEq κ] : ∀ {ks : List κ} {xs : List α} {i : Nat} {k : κ} {x : α}, ks.Nodup → ks[i]? = some k → xs[i]? = some x → look ks xs k = some x
  | [], _, _, _, _, _, h, _ => by simp at h
  | _ :: _, [], _, _, _, _, _, h => by simp at h
  | g :: ks, y :: xs, 0, k, x, _, h1, h2 => by
    simp at h1 h2
    subst h1 h2
    unfold look
    rw [if_pos rfl]
  | g :: ks, y :: xs, i + 1, k, x, hn, h1, h2 => by
    rw [List.nodup_cons] at hn
    unfold look
    have hne : ¬ g = k := fun z => hn.1 (by rw [z]; exact List.mem_of_getElem? (i := i) (by simpa using h1))
    rw [if_neg hne]
    exact look_at hn.2 (by simpa using h1) (by simpa using h2)
theorem keyD_keyV (k : Key) : keyD (keyV k) = some k := by cases k <;> rfl
def bodyD (F : List D → Fo) : FS := (fIfS (fOr (fB (fOp oNotInAny (aCons (fVar 2) (aCons (fVar 0) aNil)))) (fNot (fB (fCall F [false, false] ar__law_same_2_ [.val (.bor 0), .val (.bor 1)] (aCons (fOp oItm (aCons (fVar 0) (aCons (fVar 2) aNil))) (aCons (fOp oItm (aCons (fVar 1) (aCons (fVar 2) aNil))) aNil)))))) (fRet (fC (.bl false))) fNext)
theorem same_dic {F : List D → Fo} {d d' : D} {ks : List Key} {md : Md} (hm : md = .own ∨ md = .bor none) (h : ∀ k ∈ ks, ∃ x y, oItm [d, keyV k] = some x ∧ oItm [d', keyV k] = some y ∧ oNotInAny [keyV k, d] = some (.bl false) ∧ F [x, y] = .ret (.bl true) []) :
    ∃ s, loopD (gChk md (gNm 2)) (bodyD F) (ks.map keyV) [.bor none d, .bor none d', .dead, .dead] = .nxt [.bor none d, .bor none d', s, .dead] := by
  obtain ⟨e', a, s, rfl, hs⟩ := loop_ix (g := gChk md (gNm 2)) (fb := bodyD F) keyV ks (fun p e => ∃ s, e = [.bor none d, .bor none d', s, .dead] ∧ SlF s) [.bor none d, .bor none d', .dead, .dead] ⟨.dead, rfl, by simp⟩ (by
    rintro p k q e hl ⟨s, rfl, hs⟩
    obtain ⟨x, y, e1, e2, e3, e4⟩ := h k (by rw [hl]; exact List.mem_append_right _ (List.mem_cons_self ..))
    have hf : (keyV k).frz = true := by cases k <;> rfl
    unfold stepI bodyD
    rcases hm with rfl | rfl <;> simp [e1, e2, e3, e4, hf])
  exact ⟨s, a⟩
theorem itm_dic {o : Bool} {ks : List Key} {xs : List D} {i : Nat} {k : Key} {x : D} (hn : ks.Nodup) (h1 : ks[i]? = some k) (h2 : xs[i]? = some x) : oItm [.node o (.dic ks) xs, keyV k] = some x ∧ oNotInAny [keyV k, .node o (.dic ks) xs] = some (.bl false) := by
  have hg : dget (.node o (.dic ks) xs) (keyV k) = some (some x) := by
    show (keyD (keyV k)).map (look ks xs) = _
    rw [keyD_keyV, ← look_at hn h1 h2]
    rfl
  constructor
  · show (dget (.node o (.dic ks) xs) (keyV k)).bind id = _
    rw [hg]
    rfl
  · show (dget (.node o (.dic ks) xs) (keyV k)).map (fun o => D.bl (!o.isSome)) = _
    rw [hg]
    rfl
theorem same_true : ∀ (n : Nat) (d d' : D), Pln n d → d.fz = d'.fz → F__law_same_n n [d, d'] = .ret (.bl true) []
  | 0, d, d', h, _ => h.elim
  | n + 1, .non, d', h, e => by
    cases d' <;> simp only [D.fz] at e <;> first | cases e | skip
    unfold F__law_same_n runF B__law_same
    simp [tab_bool, tyKD, look2]
  | n + 1, .bl b, d', h, e => by
    cases d' <;> simp only [D.fz] at e <;> first | cases e | skip
    unfold F__law_same_n runF B__law_same
    simp [tab_bool, tyKD, look2]
  | n + 1, .int b, d', h, e => by
    cases d' <;> simp only [D.fz] at e <;> first | cases e | skip
    unfold F__law_same_n runF B__law_same
    simp [tab_bool, tab_int, tyKD, look2]
  | n + 1, .str b, d', h, e => by
    cases d' <;> simp only [D.fz] at e <;> first | cases e | skip
    unfold F__law_same_n runF B__law_same
    simp [tab_bool, tab_int, tab_str, tyKD, look2]
  | n + 1, .node o s xs, .node o' s' ys, h, e => by
    simp only [D.fz, D.node.injEq, true_and] at e
    obtain ⟨rfl, e⟩ := e
    obtain ⟨hl, hg⟩ := fz_get e
    have hf : xs.length ≤ 100000 ∧ (∀ x ∈ xs, Pln n x) ∧ (s = .lst ∨ s = .tup ∨ ∃ ks, s = .dic ks ∧ xs.length = ks.length ∧ ks.Nodup) := by
      cases s with
      | lst => exact ⟨h.1, h.2, .inl rfl⟩
      | tup => exact ⟨h.1, h.2, .inr (.inl rfl)⟩
      | dic ks => exact ⟨h.1.1, h.1.2, .inr (.inr ⟨ks, rfl, h.2.1, h.2.2⟩)⟩
      | _ => exact h.elim
    obtain ⟨h1, h2, h3⟩ := hf
    have hI : ∀ (i : Nat) (x y : D), xs[i]? = some x → ys[i]? = some y → F__law_same_n n [x, y] = .ret (.bl true) [] := fun i x y hx hy => same_true n x y (h2 x (List.mem_of_getElem? hx)) (hg i x y hx hy)
    have hb := blsD_true (l := List.range ys.length)
    have hn1 : (ys.length : Int) < 1000000 := by omega
    have hn2 : ys.length ≤ 16777216 := by omega
    unfold F__law_same_n runF B__law_same
    rcases h3 with rfl | rfl | ⟨ks, rfl, hk, hn⟩
    · have hc := cmpS_all (F := F__law_same_n n) (d := .node o .lst xs) (d' := .node o' .lst ys) (xs := xs) (ys := ys) (fun _ => rfl) (fun _ => rfl) hl hI
      unfold cmpS at hc
      simp [tab_bool, tab_int, tab_str, tab_dict, tab_list, tab_tuple, tyKD, look2, hl, hc, hb, hn1, hn2]
    · have hc := cmpS_all (F := F__law_same_n n) (d := .node o .tup xs) (d' := .node o' .tup ys) (xs := xs) (ys := ys) (fun _ => rfl) (fun _ => rfl) hl hI
      unfold cmpS at hc
      simp [tab_bool, tab_int, tab_str, tab_dict, tab_list, tab_tuple, tyKD, look2, hl, hc, hb, hn1, hn2]
    · have hd := fun md hm => same_dic (F := F__law_same_n n) (d := .node o (.dic ks) xs) (d' := .node o' (.dic ks) ys) (ks := ks) (md := md) hm (by
        intro k hk'
        obtain ⟨i, hi, hki⟩ := List.mem_iff_getElem.mp hk'
        have g1 : ks[i]? = some k := by rw [List.getElem?_eq_getElem hi, hki]
        have g2 : xs[i]? = some (xs[i]'(by omega)) := List.getElem?_eq_getElem (by omega)
        have g3 : ys[i]? = some (ys[i]'(by omega)) := List.getElem?_eq_getElem (by omega)
        exact ⟨_, _, (itm_dic hn g1 g2).1, (itm_dic hn g1 g3).1, (itm_dic hn g1 g2).2, hI i _ _ g2 g3⟩)
      obtain ⟨s1, d1⟩ := hd .own (.inl rfl)
      obtain ⟨s2, d2⟩ := hd (.bor none) (.inr rfl)
      unfold bodyD at d1 d2
      have hk1 : (ks.length : Int) < 1000000 := by omega
      have hk2 : ks.length ≤ 16777216 := by omega
      have hl1 : ys.length = ks.length := by omega
      by_cases hz : (D.node o' (.dic ks) ys).frz = true <;> simp [walkD, mdOf, hz, tab_bool, tab_int, tab_str, tab_dict, tab_list, tab_tuple, tyKD, look2, hl, hk, hl1, d1, d2, hn1, hn2, hk1, hk2]
  | n + 1, .node _ _ _, .non, _, e => by simp only [D.fz] at e; cases e
  | n + 1, .node _ _ _, .bl _, _, e => by simp only [D.fz] at e; cases e
  | n + 1, .node _ _ _, .int _, _, e => by simp only [D.fz] at e; cases e
  | n + 1, .node _ _ _, .str _, _, e => by simp only [D.fz] at e; cases e
  | n + 1, .node _ _ _, .ob _, _, e => by simp only [D.fz] at e; cases e
  | n + 1, .node _ _ _, .ty _, _, e => by simp only [D.fz] at e; cases e
  | n + 1, .node _ _ _, .scr _, _, e => by simp only [D.fz] at e; cases e
  | n + 1, .ob _, _, h, _ => h.elim
  | n + 1, .ty _, _, h, _ => h.elim
  | n + 1, .scr _, _, h, _ => h.elim
end My
namespace My
open PySem PySem.Spec L2 DL PL
theorem ownD_ret {Fx : List D → Fo} {g : D → Option D} {o : Bool} {fs : List Str} {xs : List D} {r : D} (h : Fx [.node o (.ins "Web" fs) xs] = .ret r []) : ownD "Web" Fx g [.node o (.ins "Web" fs) xs] = g r := by
  unfold ownD
  simp only [h, if_true]
theorem lenR_ok {n : Nat} (h : n ≤ 1000) : lenR (.int (n : Int)) = some (.int (n : Int)) := by
  unfold lenR
  simp only []
  rw [if_pos (by omega)]
theorem own_len {m : Mdl} (h : m.Sm) : ownD "Web" F_Web___len__ lenR [m.webZ] = some (.int m.points.length) :=
  (ownD_ret (lenZ_eq m h)).trans (lenR_ok (by simp [Mdl.points]; have := h.1; have := h.2.1; omega))
theorem own_repr {m : Mdl} (h : m.Sm) (hb : 1 ≤ m.by_ ∧ m.by_ ≤ 1000) : ownD "Web" F_Web___repr__ strR [m.webZ] = some (.str m.told) := (ownD_ret (reprZ_eq m h hb)).trans rfl
theorem pln_str {n : Nat} {l : List Str} (h : l.length ≤ 100000) : Pln (n + 2) (L (l.map .str)) := ⟨by rw [List.length_map]; exact h, fun x hx => by obtain ⟨z, _, rfl⟩ := List.mem_map.mp hx; trivial⟩
theorem pln_oD {n : Nat} {o : Option Int} : Pln (n + 1) (oD o) := by cases o <;> trivial
theorem pln_wd {n : Nat} {w : Wd} : Pln (n + 2) w.d := ⟨by simp, fun x hx => by
  simp only [List.mem_cons, List.not_mem_nil, or_false] at hx
  rcases hx with rfl | rfl | rfl | rfl | rfl <;> first | trivial | exact pln_oD⟩
theorem pln_bd {n : Nat} {w : Bd} : Pln (n + 2) w.d := ⟨by simp, fun x hx => by
  simp only [List.mem_cons, List.not_mem_nil, or_false] at hx
  rcases hx with rfl | rfl | rfl | rfl <;> first | trivial | exact pln_oD⟩
theorem pln_wds {n : Nat} {l : List Wd} (h : l.length ≤ 100000) : Pln (n + 3) (L (l.map Wd.d)) := ⟨by rw [List.length_map]; exact h, fun x hx => by obtain ⟨z, _, rfl⟩ := List.mem_map.mp hx; exact pln_wd⟩
section
variable {m : Mdl}
@[simp] theorem webZ_by : oFld "Web" "by" [m.webZ] = some (.int m.by_) := (rfl)
@[simp] theorem webZ_frz : m.webZ.frz = true := by simp [Mdl.webZ]
@[simp] theorem webZ_m1 : isIns "Web" "points" m.webZ = true := (rfl)
@[simp] theorem webZ_m8 : isIns "Web" "moments" m.webZ = true := (rfl)
@[simp] theorem webZ_m9 : isIns "Web" "spans" m.webZ = true := (rfl)
@[simp] theorem webZ_m10 : isIns "Web" "ties" m.webZ = true := (rfl)
@[simp] theorem dictZ_frz : m.dictZ.frz = true := by simp [Mdl.dictZ]
@[simp] theorem dictZ_by : oItm [m.dictZ, .str "by"] = some (.int m.by_) := (rfl)
@[simp] theorem dictZ_own : oItm [m.dictZ, .str "own"] = some (LZ (m.own.map .str)) := (rfl)
@[simp] theorem dictZ_winds : oItm [m.dictZ, .str "winds"] = some (LZ (m.winds.map Wd.d)) := (rfl)
@[simp] theorem dictZ_bonds : oItm [m.dictZ, .str "bonds"] = some (LZ (m.bonds.map Bd.d)) := (rfl)
end
theorem stands_ok (m : Mdl) (h : m.Sm) (hb : 1 ≤ m.by_ ∧ m.by_ ≤ 1000) : F__law_stands [m.webZ, m.dictZ] = .ret (.bl true) [] := by
  have e1 := lpointsZ_eq m h
  have e2 := momentsZ_eq m
  have e3 := spansZ_eq m
  have e4 := tiesZ_eq m
  have e5 := pointsZ_eq m h
  have e6 := own_len h
  have e7 := own_repr h hb
  obtain ⟨h1, h2, h3⟩ := h
  have hp : m.points.length ≤ 201 := by simp [Mdl.points]; omega
  have s1 : F__law_same [L [.int m.by_, L (m.own.map .str), L (m.winds.map Wd.d)], L [.int m.by_, LZ (m.own.map .str), LZ (m.winds.map Wd.d)]] = .ret (.bl true) [] :=
    same_true 8 _ _ ⟨by simp, fun x hx => by
      simp only [List.mem_cons, List.not_mem_nil, or_false] at hx
      rcases hx with rfl | rfl | rfl
      · trivial
      · exact pln_str (by omega)
      · exact pln_wds (by omega)⟩ (by simp)
  have s2 : F__law_same [LZ [LZ (m.bonds.map Bd.d), LZ (m.points.map .str), .int m.points.length], L [LZ (m.bonds.map Bd.d), LZ (m.points.map .str), .int m.points.length]] = .ret (.bl true) [] :=
    same_true 8 _ _ ⟨by simp, fun x hx => by
      simp only [List.mem_cons, List.not_mem_nil, or_false] at hx
      rcases hx with rfl | rfl | rfl
      · exact ⟨by rw [List.length_map]; omega, fun x hx => by obtain ⟨z, _, rfl⟩ := List.mem_map.mp hx; exact pln_bd⟩
      · exact ⟨by rw [List.length_map]; omega, fun x hx => by obtain ⟨z, _, rfl⟩ := List.mem_map.mp hx; trivial⟩
      · trivial⟩ (by simp)
  have s3 : F__law_same [.str m.told, .str m.told] = .ret (.bl true) [] := same_true 8 _ _ trivial rfl
  have t1 : ("Web(" : Str).length = 4 := by decide +kernel
  have t2 : (" points, " : Str).length = 9 := by decide +kernel
  have t3 : (" ties, by " : Str).length = 10 := by decide +kernel
  have t4 : (")" : Str).length = 1 := by decide +kernel
  have i1 : (istr (m.points.length : Int)).length ≤ 20 := istr_len (by omega)
  have i2 : (istr (m.bonds.length : Int)).length ≤ 20 := istr_len (by omega)
  have i3 : (istr m.by_).length ≤ 20 := by
    have q := istr_len (n := m.by_.toNat) (by omega)
    rw [Int.toNat_of_nonneg (by omega)] at q
    exact q
  unfold F__law_stands runF B__law_stands
  unfold Mdl.told at *
  simp (disch := omega) [if_pos, e1, e2, e3, e4, e5, e6, e7, s1, s2, s3, fzl_bds, fzl_str, t1, t2, t3, t4]
theorem z_ret {kinds : List Bool} {Fx : List D → Fo} {ds : List D} {d : D} {ms : List D} (h : Fx (zA kinds ds) = .ret d ms) (n : (noFz d && noFzL ms) = true) : zF kinds Fx ds = .ret d ms := by
  unfold zF
  rw [h]
  exact if_pos n
theorem standsZ (m : Mdl) (h : m.Sm) (hb : 1 ≤ m.by_ ∧ m.by_ ≤ 1000) : zF [false, false] F__law_stands [m.web, m.dict] = .ret (.bl true) [] := by
  refine z_ret ?_ rfl
  show F__law_stands [m.web.fz, m.dict.fz] = _
  rw [Mdl.web_fz, Mdl.dict_fz]
  exact stands_ok m h hb
end My
namespace PL
open PySem PySem.Spec L2 DL
@[simp] theorem fRaise_ap (c : Str) (n : Nat) (l : List (Str × XSrc)) (fa : FA) (env : Evn) : fRaise c n l fa env = (fa env).so fun ds e => if ds.length = n ∧ frzL ds = true then .exc c (xdD l ds) e else .stuck := (rfl)
def askR (tab : List (Str × List Str)) : Rs D → Rs D
  | .ok _ e => .ok .non e
  | .exc c x e => optR (fldD tab c x) e
  | .stuck => .stuck
@[simp] theorem askR_ok {tab : List (Str × List Str)} {d : D} {e : Evn} : askR tab (.ok d e) = .ok .non e := (rfl)
@[simp] theorem askR_exc {tab : List (Str × List Str)} {c : Str} {x : D} {e : Evn} : askR tab (.exc c x e) = optR (fldD tab c x) e := (rfl)
@[simp] theorem fAsk0 {ns : List Int} {T : List (He.Defn × Str)} {tab : List (Str × List Str)} {fb : FE} {rest : Evn} : fAsk 0 T tab fb (.own (.tscr ns T) :: rest) = askR tab (fb (.own (.tscr ns T) :: kill 0 (kill 0 rest))) := by
  have e : backM [0] [.tscr ns T] (.own (.tscr ns T) :: rest) = .own (.tscr ns T) :: kill 0 (kill 0 rest) := by simp
  unfold fAsk
  show (if T = T then (match fb (backM [0] [.tscr ns T] (.own (.tscr ns T) :: rest)) with
    | .ok _ e => Rs.ok D.non e
    | .exc c x e => optR (fldD tab c x) e
    | .stuck => .stuck) else .stuck) = _
  rw [if_pos rfl, e]
  cases fb (.own (.tscr ns T) :: kill 0 (kill 0 rest)) <;> rfl
end PL
namespace My
open PySem PySem.Spec L2 DL PL
end My
namespace My
open PySem PySem.Spec L2 DL PL
end My
namespace My
open PySem PySem.Spec L2 DL PL
def ScD : D → Prop
  | .non => True
  | .bl _ => True
  | .int _ => True
  | _ => False
theorem ScD.fz {x : D} (h : ScD x) : x.frz = true := by
  cases x <;> first | rfl | exact h.elim
end My
namespace My
open PySem PySem.Spec L2 DL PL
theorem turned_by {a b c d : D} {i j : Int} {xs cs ds : List D} (h : 1 ≤ j ∧ j ≤ 1000) (hx : frzL xs = true) (hc : frzL cs = true) (hd : frzL ds = true) : F_Web_turned [wbD (.int i) (L xs) (L cs) (L ds), .int j, .non, .non, .non] = .ret (wbD (.int j) (L xs) (L cs) (L ds)) [] := by
  unfold F_Web_turned runF B_Web_turned
  simp [web_init h, hx, hc, hd]
theorem withby_ok (m : Mdl) (h : m.Sm) {j : Int} (hj : 1 ≤ j ∧ j ≤ 1000) : F_Web_with_by [m.web, .int j] = .ret ({ m with by_ := j } : Mdl).web [] := by
  have t := turned_by (a := .non) (b := .non) (c := .non) (d := .non) (i := m.by_) (j := j) (xs := m.own.map .str) (cs := m.winds.map Wd.d) (ds := m.bonds.map Bd.d) hj frzL_map_str wds_frz bds_frz
  have w := within_i j 1 1000
  have c : decide (1 ≤ j ∧ j ≤ 1000) = true := decide_eq_true hj
  rw [c] at w
  unfold F_Web_with_by runF B_Web_with_by Mdl.web at *
  simp [w, t]
end My
namespace My
open PySem PySem.Spec L2 DL PL
theorem strOk_nm {s : Str} (h : isNm s = true) : PyData.strOk s = true := by
  unfold isNm at h
  simp only [Bool.and_eq_true, List.all_eq_true] at h
  have hz : ∀ c ∈ abc.cps.toList, c < 0x110000 := by decide +kernel
  unfold PyData.strOk
  rw [Array.all_eq_true_iff_forall_mem]
  intro c hc
  have h2 := h.2 c (Array.mem_toList_iff.mpr hc)
  unfold abcIn at h2
  simpa using hz c (of_decide_eq_true h2)
theorem so_pt {m : Mdl} (ok : MdlOk m) {s : Str} (h : s ∈ m.points) : PyData.strOk s = true := by
  refine strOk_nm ?_
  unfold Mdl.points at h
  rcases List.mem_cons.mp h with rfl | h
  · decide +kernel
  · exact (ok.nm s h).1
def oP : Option Int → PyData
  | none => .none
  | some i => .int i
def Wd.P (w : Wd) : PyData := .tuple [.str w.e, .str w.b, .int w.lo, .int w.hi, oP w.late]
def Bd.P (b : Bd) : PyData := .tuple [.str b.one, .str b.other, oP b.least, oP b.most]
def Mdl.P (m : Mdl) : PyData := .tuple [.int m.by_, .list (m.own.map .str), .list (m.winds.map Wd.P), .list (m.bonds.map Bd.P)]
theorem Wd.pd (w : Wd) : toPD w.d = some w.P := by
  obtain ⟨e, b, lo, hi, late⟩ := w
  cases late <;> simp [Wd.d, oD, toPD, toPDL, Wd.P, oP]
theorem Bd.pd (b : Bd) : toPD b.d = some b.P := by
  obtain ⟨e, b, lo, hi⟩ := b
  cases lo <;> cases hi <;> simp [Bd.d, oD, toPD, toPDL, Bd.P, oP]
theorem pdl_of {α : Type} {f : α → D} {g : α → PyData} (h : ∀ a, toPD (f a) = some (g a)) : ∀ l : List α, toPDL (l.map f) = some (l.map g)
  | [] => rfl
  | a :: l => by simp [toPDL, h a, pdl_of h l]
def tupZ (m : Mdl) : D := .node false .tup [.int m.by_, LZ (m.own.map .str), LZ (m.winds.map Wd.d), LZ (m.bonds.map Bd.d)]
theorem tup_pd (m : Mdl) : toPD (tupZ m) = some m.P := by
  have h1 := pdl_of (f := D.str) (g := PyData.str) (fun a => by simp [toPD]) m.own
  have h2 := pdl_of Wd.pd m.winds
  have h3 := pdl_of Bd.pd m.bonds
  simp [tupZ, toPD, toPDL, h1, h2, h3, Mdl.P]
theorem eqvAll_of {α : Type} {f : α → PyData} (h : ∀ a b, PyData.eqv (f a) (f b) = true ↔ a = b) : ∀ l l' : List α, PyData.eqvAll (l.map f) (l'.map f) = true ↔ l = l'
  | [], [] => by simp [PyData.eqvAll]
  | [], _ :: _ => by simp [PyData.eqvAll]
  | _ :: _, [] => by simp [PyData.eqvAll]
  | a :: l, b :: l' => by
    rw [List.map_cons, List.map_cons]
    simp only [PyData.eqvAll, Bool.and_eq_true, h a b, eqvAll_of h l l', List.cons.injEq]
theorem oP_eqv (a b : Option Int) : PyData.eqv (oP a) (oP b) = true ↔ a = b := by
  cases a <;> cases b <;> simp [oP, PyData.eqv]
theorem Wd.eqv (w v : Wd) : PyData.eqv w.P v.P = true ↔ w = v := by
  obtain ⟨e, b, lo, hi, late⟩ := w
  obtain ⟨e', b', lo', hi', late'⟩ := v
  have := oP_eqv late late'
  simp [Wd.P, PyData.eqv, PyData.eqvAll, this]
theorem Bd.eqv (w v : Bd) : PyData.eqv w.P v.P = true ↔ w = v := by
  obtain ⟨e, b, lo, hi⟩ := w
  obtain ⟨e', b', lo', hi'⟩ := v
  have h1 := oP_eqv lo lo'
  have h2 := oP_eqv hi hi'
  simp [Bd.P, PyData.eqv, PyData.eqvAll, h1, h2]
theorem Mdl.eqv (a b : Mdl) : PyData.eqv a.P b.P = true ↔ a = b := by
  obtain ⟨x, o, w, c⟩ := a
  obtain ⟨x', o', w', c'⟩ := b
  have h1 := eqvAll_of (f := PyData.str) (fun a b => by simp [PyData.eqv]) o o'
  have h2 := eqvAll_of Wd.eqv w w'
  have h3 := eqvAll_of Bd.eqv c c'
  simp [Mdl.P, PyData.eqv, PyData.eqvAll, h1, h2, h3]
theorem lays_of {α : Type} {f : α → PyData} {l : List α} (h : ∀ a ∈ l, (f a).canLay0 = true) : PyData.canLayAll0 (l.map f) = true := by
  induction l with
  | nil => rfl
  | cons t bs ih =>
    simp only [List.map_cons, PyData.canLayAll0, h t (List.mem_cons_self ..), ih fun b hb => h b (List.mem_cons_of_mem _ hb)]
    rfl
theorem deps_of {α : Type} {f : α → PyData} (h : ∀ a, (f a).depth ≤ 8) (l : List α) : PyData.depthAll (l.map f) ≤ 8 := by
  induction l with
  | nil => simp [PyData.depthAll]
  | cons t bs ih =>
    simp only [List.map_cons, PyData.depthAll]
    have := h t
    omega
theorem Wd.dep (w : Wd) : w.P.depth ≤ 8 := by
  obtain ⟨e, b, lo, hi, late⟩ := w
  cases late <;> simp [Wd.P, oP, PyData.depth, PyData.depthAll]
theorem Bd.dep (w : Bd) : w.P.depth ≤ 8 := by
  obtain ⟨e, b, lo, hi⟩ := w
  cases lo <;> cases hi <;> simp [Bd.P, oP, PyData.depth, PyData.depthAll]
theorem own_pt {m : Mdl} {s : Str} (h : s ∈ m.own) : s ∈ m.points := by
  unfold Mdl.points
  exact List.mem_cons_of_mem _ (List.mem_append_left _ h)
theorem end_pt {m : Mdl} {w : Wd} (h : w ∈ m.winds) : w.e ∈ m.points := by
  unfold Mdl.points
  exact List.mem_cons_of_mem _ (List.mem_append_right _ (List.mem_map_of_mem h))
theorem beg_pt {m : Mdl} (ok : MdlOk m) {w : Wd} (h : w ∈ m.winds) : w.b ∈ m.points := by
  rcases (ok.wok w h).1 with z | z
  · rw [z]; exact List.mem_cons_self ..
  · exact own_pt z
theorem Mdl.shaped {m : Mdl} (ok : MdlOk m) : SeqAt.shaped m.P = true := by
  have l1 : PyData.canLayAll0 (m.own.map PyData.str) = true := lays_of fun a ha => by
    simp [PyData.canLay0, so_pt ok (own_pt ha)]
  have l2 : PyData.canLayAll0 (m.winds.map Wd.P) = true := lays_of fun w hw => by
    have h1 := so_pt ok (end_pt hw)
    have h2 := so_pt ok (beg_pt ok hw)
    obtain ⟨e, b, lo, hi, late⟩ := w
    cases late <;> simp [Wd.P, oP, PyData.canLay0, PyData.canLayAll0, h1, h2]
  have l3 : PyData.canLayAll0 (m.bonds.map Bd.P) = true := lays_of fun b hb => by
    have q := ok.bok b hb
    have h1 := so_pt ok q.1
    have h2 := so_pt ok q.2.1
    obtain ⟨e, b, lo, hi⟩ := b
    cases lo <;> cases hi <;> simp [Bd.P, oP, PyData.canLay0, PyData.canLayAll0, h1, h2]
  have d1 := deps_of (f := PyData.str) (fun a => by simp [PyData.depth]) m.own
  have d2 := deps_of Wd.dep m.winds
  have d3 := deps_of Bd.dep m.bonds
  unfold SeqAt.shaped
  have c : m.P.canLay0 = true := by
    simp [Mdl.P, PyData.canLay0, PyData.canLayAll0, l1, l2, l3]
  rw [c, Bool.true_and]
  refine decide_eq_true ?_
  simp only [Mdl.P, PyData.depth, PyData.depthAll]
  omega
theorem tups_eq {a b : Mdl} (oa : MdlOk a) (ob : MdlOk b) : oEqF [tupZ a, tupZ b] = some (.bl (PyData.eqv a.P b.P)) := by
  have e : eqD (tupZ a) (tupZ b) = some (PyData.eqv a.P b.P) := by
    unfold eqD
    rw [tup_pd, tup_pd]
    simp only [Option.bind_some]
    rw [if_pos ⟨Mdl.shaped oa, Mdl.shaped ob⟩]
  show (match scEq [tupZ a, tupZ b] with | some b => some (D.bl b) | none => (eqD (tupZ a) (tupZ b)).map D.bl) = _
  rw [show scEq [tupZ a, tupZ b] = none from rfl, e]
  rfl
theorem eq_webs {a b : Mdl} (oa : MdlOk a) (ob : MdlOk b) : zF [false, false] F_Web___eq__ [a.web, b.web] = .ret (.bl (PyData.eqv a.P b.P)) [] := by
  refine z_ret ?_ rfl
  show F_Web___eq__ [a.web.fz, b.web.fz] = _
  rw [Mdl.web_fz, Mdl.web_fz]
  have e := tups_eq oa ob
  have iw : ∀ a b c d, oIsi tab_Web [wbZ a b c d] = some (.bl true) := fun _ _ _ _ => rfl
  unfold tupZ at e
  unfold F_Web___eq__ runF B_Web___eq__ Mdl.webZ
  simp [iw, e]
end My
namespace My
open PySem PySem.Spec L2 DL PL TL
section
variable {s0 : Sl} {env : Evn}
@[simp] theorem ev_fSm {g : Str → D → Option D} {f fa : FE} : fSm g f fa (s0 :: env) = (f (s0 :: env)).bind fun d e1 => match d with
  | .str z => (fa e1).bind fun y e2 => optR (g z y) e2
  | _ => .stuck := (rfl)
@[simp] theorem ev_fLm {g : D → List D → Option D} {f : FE} {fa : FA} : fLm g f fa (s0 :: env) = (f (s0 :: env)).bind fun d e => if isLst d = true then (fa e).bind fun ds e2 => optR (g d ds) e2 else .stuck := (rfl)
@[simp] theorem ev_fTryN {fb : FS} : fTryN fb (s0 :: env) = match fb (s0 :: env) with
  | .exc _ _ _ => .stuck
  | o => o := (rfl)
@[simp] theorem ev_iEnum {k : Kd} {fa : FA} : iEnumD k fa (s0 :: env) = (fa (s0 :: env)).bind fun ds e1 => match ds with
  | [d] => (match walkD k d e1 with
    | some (md, .node _ .lst xs) => if frzL xs = true then .ok (md, enumD xs, false) e1 else .stuck
    | _ => .stuck)
  | _ => .stuck := (rfl)
@[simp] theorem ev_iZs {k2 : Kd} {fa : FA} : iZsD k2 fa (s0 :: env) = (fa (s0 :: env)).bind fun ds e1 => match ds with
  | [.str x, d] => (match walkD k2 d e1 with
    | some (md, .node _ .lst xs) => if frzL xs = true ∧ xs.length = x.cps.size then .ok (md, zsD x xs, false) e1 else .stuck
    | _ => .stuck)
  | _ => .stuck := (rfl)
end
def digIn (c : Nat) : Bool := decide (c ∈ ("0123456789" : Str).cps.toList)
def figs (z : Str) : Str := if Txt.startswith z "-" = true then Txt.slice z (some 1) none else z
def numB (i : Int) : Bool :=
  let z := istr i
  let f := figs z
  decide (1 ≤ f.length ∧ f.length ≤ 9) && (f.cps.toList.all digIn && (!(decide ((⟨#[(f.cps.toList.headD 0)]⟩ : Str) = "0") && !decide (z = "0")) && (decide (PySem.intText? z = some i) && (decide (z.length ≤ 20) && (decide (32 ∉ tl z) && (decide (10 ∉ tl z) && !decide (z = "-")))))))
theorem num_all0 : ((List.range 201).all fun k => numB ((k : Int) - 1000)) = true := by decide +kernel
theorem num_all1 : ((List.range 201).all fun k => numB ((k : Int) - 800)) = true := by decide +kernel
theorem num_all2 : ((List.range 201).all fun k => numB ((k : Int) - 600)) = true := by decide +kernel
theorem num_all3 : ((List.range 201).all fun k => numB ((k : Int) - 400)) = true := by decide +kernel
theorem num_all4 : ((List.range 201).all fun k => numB ((k : Int) - 200)) = true := by decide +kernel
theorem num_all5 : ((List.range 201).all fun k => numB ((k : Int) - 0)) = true := by decide +kernel
theorem num_all6 : ((List.range 201).all fun k => numB ((k : Int) - -200)) = true := by decide +kernel
theorem num_all7 : ((List.range 201).all fun k => numB ((k : Int) - -400)) = true := by decide +kernel
theorem num_all8 : ((List.range 201).all fun k => numB ((k : Int) - -600)) = true := by decide +kernel
theorem num_all9 : ((List.range 201).all fun k => numB ((k : Int) - -800)) = true := by decide +kernel
theorem num_fact {i : Int} (h : -1000 ≤ i ∧ i ≤ 1000) : numB i = true := by
  have key : ∀ {a : Int} (_ : ((List.range 201).all fun k => numB ((k : Int) - a)) = true), -a ≤ i → i ≤ 200 - a → numB i = true := fun {a} q h1 h2 => by
    have q2 := List.all_eq_true.mp q (i + a).toNat (List.mem_range.mpr (by omega))
    rw [show (((i + a).toNat : Nat) : Int) - a = i from by omega] at q2
    exact q2
  by_cases c0 : i ≤ -800
  · exact key num_all0 (by omega) (by omega)
  by_cases c1 : i ≤ -600
  · exact key num_all1 (by omega) (by omega)
  by_cases c2 : i ≤ -400
  · exact key num_all2 (by omega) (by omega)
  by_cases c3 : i ≤ -200
  · exact key num_all3 (by omega) (by omega)
  by_cases c4 : i ≤ 0
  · exact key num_all4 (by omega) (by omega)
  by_cases c5 : i ≤ 200
  · exact key num_all5 (by omega) (by omega)
  by_cases c6 : i ≤ 400
  · exact key num_all6 (by omega) (by omega)
  by_cases c7 : i ≤ 600
  · exact key num_all7 (by omega) (by omega)
  by_cases c8 : i ≤ 800
  · exact key num_all8 (by omega) (by omega)
  · exact key num_all9 (by omega) (by omega)
structure NumOk (i : Int) : Prop where
  l : 1 ≤ (figs (istr i)).length ∧ (figs (istr i)).length ≤ 9
  dig : (figs (istr i)).cps.toList.all digIn = true
  hd : (decide ((⟨#[((figs (istr i)).cps.toList.headD 0)]⟩ : Str) = "0") && !decide (istr i = "0")) = false
  txt : PySem.intText? (istr i) = some i
  len : (istr i).length ≤ 20
  sp : 32 ∉ tl (istr i)
  nl : 10 ∉ tl (istr i)
  ne : istr i ≠ "-"
theorem numOk {i : Int} (h : -1000 ≤ i ∧ i ≤ 1000) : NumOk i := by
  have q := num_fact h
  unfold numB at q
  simp only [Bool.and_eq_true, decide_eq_true_eq, Bool.not_eq_true'] at q
  obtain ⟨q1, q2, q3, q4, q5, q6, q7, q8⟩ := q
  exact ⟨q1, q2, q3, q4, q5, q6, q7, of_decide_eq_false q8⟩
end My
namespace My
open PySem PySem.Spec L2 DL PL TL
theorem number_gen {z f : Str} {i : Int} (hf : (Txt.startswith z "-" = true ∧ Txt.slice z (some 1) none = f) ∨ (Txt.startswith z "-" = false ∧ z = f)) (n1 : 1 ≤ f.length ∧ f.length ≤ 9) (n2 : f.cps.toList.all digIn = true)
    (n3 : (decide ((⟨#[(f.cps.toList.headD 0)]⟩ : Str) = "0") && !decide (z = "0")) = false) (n4 : PySem.intText? z = some i) (n5 : z.length ≤ 20) : F_number_of [.str z] = .ret (.int i) [] := by
  have e : compD (gChk .own G_number_of_1) T_number_of_1 E_number_of_1 [.bor none (.str z), .own (.str f), .dead] (f.cps.toList.map fun c => D.str ⟨#[c]⟩) = some (f.cps.toList.map fun c => .bl (digIn c)) := compD_map (xs := f.cps.toList) fun c _ => ⟨_, _, _, rfl, rfl, rfl⟩
  unfold F_number_of runF B_number_of
  have hl : f.length ≤ 16777216 := by omega
  have q : blsD (List.map (fun c => D.bl (digIn c)) f.cps.toList) = some (f.cps.toList.map digIn) := blsD_map
  have h5 : z.length ≤ 16777216 := by omega
  have hi : oItm [.str f, .int 0] = some (.str ⟨#[f.cps.toList.headD 0]⟩) := by
    have hne : f.cps.toList ≠ [] := fun z => by
      have : f.cps.toList.length = 0 := by rw [z]; rfl
      rw [Array.length_toList] at this
      have := n1.1
      exact absurd this (by show ¬ 1 ≤ f.cps.size; omega)
    show (if f.length ≤ sizeLine then (atI f.cps.toList 0).map fun c => D.str ⟨#[c]⟩ else none) = _
    rw [if_pos (by rw [sizeLine_eq]; exact hl), atI_pos (by omega)]
    cases hq : f.cps.toList with
    | nil => exact absurd hq hne
    | cons c cs => rfl
  have n2' : (List.map digIn f.cps.toList).all id = true := by rw [List.all_map]; exact n2
  have n11 : (1 : Int) ≤ (f.length : Int) := by omega
  have n19 : (f.length : Int) ≤ 9 := by omega
  have ht : oIntS [.str z] = some (.int i) := by
    show (if z.length ≤ 640 then (PySem.intText? z).map D.int else none) = _
    rw [if_pos (by omega), n4]
    rfl
  have hL : oLen [.str f] = some (.int f.length) := oLen_s (by rw [sizeLine_eq]; exact hl)
  have hcs : f.cps.size = f.length := rfl
  generalize hhd : (⟨#[f.cps.toList.headD 0]⟩ : Str) = hd at *
  have hE := oEq_ss hd "0"
  have hN := oNe_ss z "0"
  generalize decide (hd = "0") = b1 at *
  generalize decide (z = "0") = b2 at *
  rcases hf with ⟨hs, hf'⟩ | ⟨hs, hf'⟩
  · cases b1 <;> cases b2 <;> simp at n3 <;> simp [-oEq_ss, -oNe_ss, gStarts, hs, oSl, hf', h5, hL, n11, n19, e, q, n2', hi, ht, hcs, hl, hE, hN]
  · subst hf'
    cases b1 <;> cases b2 <;> simp at n3 <;> simp [-oEq_ss, -oNe_ss, gStarts, hs, h5, hL, n11, n19, e, q, n2', hi, ht, hcs, hl, hE, hN]
theorem number_ok {i : Int} (h : -1000 ≤ i ∧ i ≤ 1000) : F_number_of [.str (istr i)] = .ret (.int i) [] := by
  obtain ⟨n1, n2, n3, n4, n5, n6, n7, n8⟩ := numOk h
  refine number_gen (f := figs (istr i)) ?_ n1 n2 n3 n4 n5
  unfold figs
  cases hs : Txt.startswith (istr i) "-" with
  | true => exact .inl ⟨rfl, by rw [if_pos rfl]⟩
  | false => exact .inr ⟨rfl, by rw [if_neg (by simp)]⟩
end My
namespace My
open PySem PySem.Spec L2 DL PL TL
inductive Th where
  | s (x : Str) | i (k : Int) | no
def Th.d : Th → D
  | .s x => .str x
  | .i k => .int k
  | .no => .non
def Th.w : Th → Str
  | .s x => x
  | .i k => istr k
  | .no => "-"
def Th.Ok : Th → Prop
  | .s x => x.length ≤ 20 ∧ 32 ∉ tl x ∧ 10 ∉ tl x
  | .i k => -1000 ≤ k ∧ k ≤ 1000
  | .no => True
theorem Th.w_ok {t : Th} (h : t.Ok) : t.w.length ≤ 20 ∧ 32 ∉ tl t.w ∧ 10 ∉ tl t.w := by
  cases t with
  | s x => exact h
  | i k => exact ⟨(numOk h).len, (numOk h).sp, (numOk h).nl⟩
  | no => decide +kernel
@[simp] theorem Th.frz (t : Th) : t.d.frz = true := by cases t <;> rfl
def oT : Option Int → Th
  | none => .no
  | some i => .i i
theorem oT_d (o : Option Int) : (oT o).d = oD o := by cases o <;> rfl
def rowD (r : List Th) : D := .node false .tup (r.map Th.d)
def lineOf (r : List Th) : Str := Txt.join " " (r.map Th.w)
theorem ths_frz (r : List Th) : frzL (r.map Th.d) = true := frzL_of fun d h => by obtain ⟨z, _, rfl⟩ := List.mem_map.mp h; exact Th.frz z
@[simp] theorem rowD_frz (r : List Th) : (rowD r).frz = true := by simp [rowD, ths_frz]
theorem strsD_map : ∀ l : List Str, strsD (l.map D.str) = some l
  | [] => rfl
  | a :: l => by rw [List.map_cons]; unfold strsD; rw [strsD_map l]; rfl
theorem sum_le {B : Nat} : ∀ {l : List Nat}, (∀ x ∈ l, x ≤ B) → l.sum ≤ l.length * B
  | [], _ => by simp
  | a :: l, h => by
    have h1 := h a (List.mem_cons_self ..)
    have h2 := sum_le (l := l) fun x hx => h x (List.mem_cons_of_mem _ hx)
    rw [List.sum_cons, List.length_cons, Nat.add_mul, Nat.one_mul]
    omega
theorem gJoin_ok {o : Bool} {sep : Str} {l : List Str} {B : Nat} (h : ∀ x ∈ l, x.length ≤ B) (hl : l.length * (B + sep.length) ≤ 16777216) : gJoin sep (.node o .lst (l.map D.str)) = some (.str (Txt.join sep l)) := by
  unfold gJoin
  simp only [strsD_map, Option.bind_some]
  have q := sum_le (B := B) (l := l.map (·.length)) fun x hx => by obtain ⟨z, hz, rfl⟩ := List.mem_map.mp hx; exact h z hz
  rw [List.length_map] at q
  rw [Nat.mul_add] at hl
  rw [if_pos (by omega)]
theorem w_len (r : List Th) (h : ∀ t ∈ r, t.Ok) : ∀ x ∈ r.map Th.w, x.length ≤ 20 := fun x hx => by
  obtain ⟨z, hz, rfl⟩ := List.mem_map.mp hx
  exact (Th.w_ok (h z hz)).1
theorem log_ok {n : Int} (h : -1000 ≤ n ∧ n ≤ 1000) : n.natAbs.log2 < 1920 := log2_le (by omega)
theorem shown_ok (t : Th) (h : t.Ok) : F_shown [t.d] = .ret (.str t.w) [] := by
  unfold F_shown runF B_shown
  cases t with
  | s x => simp [Th.d, Th.w]
  | i k => simp [Th.d, Th.w, log_ok h]
  | no => simp [Th.d, Th.w]
theorem write_deed_ok {o : Bool} (r : List Th) (hr : r.length ≤ 100) (h : ∀ t ∈ r, t.Ok) : F_write_deed [.node o .tup (r.map Th.d)] = .ret (.str (lineOf r)) [] := by
  have e : ∀ w md, md = Md.own ∨ md = Md.bor none → compD (gChk md G_write_deed_1) T_write_deed_1 E_write_deed_1 [.bor none w, .dead] (r.map Th.d) = some (r.map fun t => .str t.w) := fun w md hm => compD_map fun t ht => by
    have q := shown_ok t (h t ht)
    rcases hm with rfl | rfl
    · exact ⟨[.bor none w, .own t.d], [.bor none w, .own t.d], [.bor none w, .own t.d], by simp [G_write_deed_1], by simp [T_write_deed_1], by simp [E_write_deed_1, q]⟩
    · exact ⟨[.bor none w, .own t.d], [.bor none w, .own t.d], [.bor none w, .own t.d], by simp [G_write_deed_1], by simp [T_write_deed_1], by simp [E_write_deed_1, q]⟩
  have j := gJoin_ok (o := true) (sep := " ") (l := r.map Th.w) (B := 20) (w_len r h) (by rw [List.length_map]; show r.length * 21 ≤ 16777216; omega)
  rw [List.map_map] at j
  have j' : gJoin " " (.node true .lst (r.map fun t => D.str t.w)) = some (.str (lineOf r)) := j
  have hr6 : r.length ≤ 16777216 := by omega
  unfold F_write_deed runF B_write_deed
  cases o with
  | false => simp [ths_frz, e, j', hr6]
  | true => simp [ths_frz, e, j', hr6]
theorem deed_line_ok {o : Bool} (r : List Th) (hr : r.length ≤ 100) (h : ∀ t ∈ r, t.Ok) : F__law_deed_line [.node o .tup (r.map Th.d)] = .ret (.str (lineOf r)) [] := by
  have e : ∀ w md, md = Md.own ∨ md = Md.bor none → compD (gChk md G__law_deed_line_1) T__law_deed_line_1 E__law_deed_line_1 [.bor none w, .dead] (r.map Th.d) = some (r.map fun t => .str t.w) := fun w md hm => compD_map fun t ht => by
    have q : E__law_deed_line_1 [.bor none w, .own t.d] = .ok (.str t.w) [.bor none w, .own t.d] := by
      unfold E__law_deed_line_1
      have hk := h t ht
      cases t with
      | s x => simp [Th.d, Th.w]
      | i k => simp [Th.d, Th.w, log_ok hk]
      | no => simp [Th.d, Th.w]
    rcases hm with rfl | rfl
    · exact ⟨[.bor none w, .own t.d], [.bor none w, .own t.d], _, by simp [G__law_deed_line_1], by simp [T__law_deed_line_1], q⟩
    · exact ⟨[.bor none w, .own t.d], [.bor none w, .own t.d], _, by simp [G__law_deed_line_1], by simp [T__law_deed_line_1], q⟩
  have j := gJoin_ok (o := true) (sep := " ") (l := r.map Th.w) (B := 20) (w_len r h) (by rw [List.length_map]; show r.length * 21 ≤ 16777216; omega)
  rw [List.map_map] at j
  have j' : gJoin " " (.node true .lst (r.map fun t => D.str t.w)) = some (.str (lineOf r)) := j
  have hr6 : r.length ≤ 16777216 := by omega
  unfold F__law_deed_line runF B__law_deed_line
  cases o with
  | false => simp [ths_frz, e, j', hr6]
  | true => simp [ths_frz, e, j', hr6]
theorem name_ok {x : Str} (h : isNm x = true) (hl : x.length ≤ 10000) : F_name_of [.str x] = .ret (.str x) [] := by
  unfold F_name_of runF B_name_of
  simp [is_name_s x hl, h]
def sgOk (c : Nat) : Th → Prop
  | .s x => c = 119 ∧ isNm x = true ∧ x.length ≤ 10000
  | .i k => (c = 110 ∨ c = 111) ∧ (-1000 ≤ k ∧ k ≤ 1000)
  | .no => c = 111
theorem sg_w : ((⟨#[119]⟩ : Str) = "w") = True := eq_true (by decide +kernel)
theorem sg_n : ((⟨#[110]⟩ : Str) = "w") = False ∧ ((⟨#[110]⟩ : Str) = "o") = False := ⟨eq_false (by decide +kernel), eq_false (by decide +kernel)⟩
theorem sg_o : ((⟨#[111]⟩ : Str) = "w") = False ∧ ((⟨#[111]⟩ : Str) = "o") = True := ⟨eq_false (by decide +kernel), eq_true (by decide +kernel)⟩
theorem thing_ok (c : Nat) (t : Th) (h : sgOk c t) : F_thing_of [.str ⟨#[c]⟩, .str t.w] = .ret t.d [] := by
  unfold F_thing_of runF B_thing_of
  cases t with
  | s x =>
    obtain ⟨rfl, h1, h2⟩ := h
    have q := name_ok h1 h2
    simp [Th.d, Th.w, sg_w, q]
  | i k =>
    obtain ⟨hc, hn⟩ := h
    have q := number_ok hn
    have ne := (numOk hn).ne
    rcases hc with rfl | rfl
    · simp [Th.d, Th.w, sg_n.1, sg_n.2, q]
    · simp [Th.d, Th.w, sg_o.1, sg_o.2, q, ne]
  | no =>
    obtain rfl : c = 111 := h
    simp [Th.d, Th.w, sg_o.1, sg_o.2]
theorem zs_map {α : Type} {f : Str} {ts : List α} {g : α → D} : zsD f (ts.map g) = (f.cps.toList.zip ts).map fun p => .node false .tup [.str ⟨#[p.1]⟩, g p.2] := by
  unfold zsD
  rw [List.zipWith_map_right, List.zip, List.map_zipWith]
theorem join_len {B : Nat} (y : Str) : ∀ {l : List Str}, (∀ x ∈ l, x.length ≤ B) → (Txt.join y l).length ≤ l.length * (B + y.length) := fun {l} h => by
  rw [join_eq]
  induction l with
  | nil => exact Nat.zero_le _
  | cons a l ih =>
    have h1 := h a (List.mem_cons_self ..)
    have h2 := ih fun x hx => h x (List.mem_cons_of_mem _ hx)
    cases l with
    | nil => show a.length ≤ _; simp only [List.length_cons, List.length_nil]; omega
    | cons b l =>
      show (a ++ y ++ Str.join y (b :: l)).length ≤ _
      rw [str_len, str_len, List.length_cons (as := b :: l), Nat.add_mul, Nat.one_mul]
      omega
theorem line_len (r : List Th) (h : ∀ t ∈ r, t.Ok) : (lineOf r).length ≤ r.length * 21 := by
  have q := join_len (B := 20) " " (w_len r h)
  rw [List.length_map] at q
  exact q
theorem read_deed_ok {w f : Str} {ts : List Th} (hw : oTabGetS gs_FORMS [.str w, .str ""] = some (.str f)) (hf : f ≠ "") (hl : f.length = ts.length) (hl2 : ts.length ≤ 20) (hs : ∀ p ∈ f.cps.toList.zip ts, sgOk p.1 p.2) (ok : (Th.s w).Ok ∧ ∀ t ∈ ts, t.Ok) :
    F_read_deed [.str (lineOf (.s w :: ts))] = .ret (rowD (.s w :: ts)) [] := by
  have okr : ∀ t ∈ Th.s w :: ts, t.Ok := fun t ht => by
    rcases List.mem_cons.mp ht with rfl | ht
    · exact ok.1
    · exact ok.2 t ht
  have hz : (lineOf (.s w :: ts)).length + 2 ≤ sizeLine := by
    have q := line_len (.s w :: ts) okr
    rw [List.length_cons] at q
    rw [sizeLine_eq]
    omega
  have hsp : gSplit (lineOf (.s w :: ts)) (.str " ") = some (L (((Th.s w :: ts).map Th.w).map D.str)) := by
    show (if _ then some (D.node true .lst ((Txt.split (lineOf (.s w :: ts)) " ").map .str)) else none) = _
    rw [if_pos ⟨by decide +kernel, hz⟩]
    unfold lineOf
    rw [split_join (y := " ") (s := 32) (S := []) (by decide +kernel) (by decide +kernel) (by simp) fun p hp => ?_]
    obtain ⟨t, ht, rfl⟩ := List.mem_map.mp hp
    exact (Th.w_ok (okr t ht)).2.1
  have e : ∀ w x1 x2, compD (gChk .own G_read_deed_1) T_read_deed_1 E_read_deed_1 [.bor none w, .own x1, .own x2, .own (.str f), .dead, .dead] (zsD f (ts.map (D.str ∘ Th.w))) = some (ts.map Th.d) := fun w x1 x2 => by
    rw [zs_map]
    have q := compD_map (g := gChk .own G_read_deed_1) (ft := T_read_deed_1) (fe := E_read_deed_1) (env := [.bor none w, .own x1, .own x2, .own (.str f), .dead, .dead]) (enc := fun p : Nat × Th => .node false .tup [.str ⟨#[p.1]⟩, (D.str ∘ Th.w) p.2]) (h := fun p => p.2.d) (xs := f.cps.toList.zip ts) fun p hp => by
      obtain ⟨c, t⟩ := p
      have z := thing_ok c t (hs _ hp)
      exact ⟨[.bor none w, .own x1, .own x2, .own (.str f), .own (.str ⟨#[c]⟩), .own (.str t.w)], [.bor none w, .own x1, .own x2, .own (.str f), .own (.str ⟨#[c]⟩), .own (.str t.w)], [.bor none w, .own x1, .own x2, .own (.str f), .own (.str ⟨#[c]⟩), .own (.str t.w)], by simp [G_read_deed_1], by simp [T_read_deed_1], by simp [E_read_deed_1, z]⟩
    rw [q]
    congr 1
    show List.map (Th.d ∘ Prod.snd) (f.cps.toList.zip ts) = _
    rw [← List.map_map, List.map_snd_zip (by rw [Array.length_toList]; exact Nat.le_of_eq hl.symm)]
  have hfl : f.cps.size = ts.length := hl
  have hL : oLen [.str f] = some (.int ts.length) := by rw [oLen_s (by rw [sizeLine_eq]; omega), hl]
  have hl3 : ts.length ≤ 16777216 := by omega
  have hl4 : 1 + ts.length ≤ 16777216 := by omega
  have hfz : frzL (ts.map (D.str ∘ Th.w)) = true := frzL_of fun d h => by obtain ⟨z, _, rfl⟩ := List.mem_map.mp h; rfl
  have hr : D.node false .tup (D.str w :: ts.map Th.d) = rowD (.s w :: ts) := rfl
  unfold F_read_deed runF B_read_deed
  simp [hsp, gStarS, Th.w, hw, hf, hL, hl3, hl4, hfz, e, hfl, ths_frz, hr, frzL_append, oTuple]
end My
namespace My
open PySem PySem.Spec L2 DL PL TL
def byR (i : Int) : List Th := [.s "by", .i i]
def moR (s : Str) : List Th := [.s "moment", .s s]
def spR (w : Wd) : List Th := [.s "span", .s w.e, .s w.b, .i w.lo, .i w.hi, oT w.late]
def tiR (b : Bd) : List Th := [.s "tie", .s b.one, .s b.other, oT b.least, oT b.most]
def rowsOf (m : Mdl) : List (List Th) := byR m.by_ :: (m.own.map moR ++ (m.winds.map spR ++ m.bonds.map tiR))
def textOf (m : Mdl) : Str := Txt.join "\n" ((rowsOf m).map lineOf)
theorem nm_txt {x : Str} (h : isNm x = true) : x.length ≤ 20 ∧ 32 ∉ tl x ∧ 10 ∉ tl x := by
  unfold isNm at h
  rw [Bool.and_eq_true, decide_eq_true_eq] at h
  obtain ⟨h1, h2⟩ := h
  have q : ∀ c ∈ tl x, abcIn c = true := List.all_eq_true.mp h2
  refine ⟨by omega, fun z => ?_, fun z => ?_⟩
  · exact absurd (q 32 z) (by decide +kernel)
  · exact absurd (q 10 z) (by decide +kernel)
theorem start_nm : isNm "start" = true ∧ ("start" : Str).length ≤ 10000 := by decide +kernel
theorem pt_nm {m : Mdl} (ok : MdlOk m) {s : Str} (h : s ∈ m.points) : isNm s = true ∧ s.length ≤ 10000 := by
  rcases List.mem_cons.mp h with rfl | h
  · exact start_nm
  · exact ok.nm s h
theorem word_ok : (Th.s "by").Ok ∧ (Th.s "moment").Ok ∧ (Th.s "span").Ok ∧ (Th.s "tie").Ok := by
  refine ⟨?_, ?_, ?_, ?_⟩ <;> (show _ ∧ _; decide +kernel)
theorem nm_ok {x : Str} (h : isNm x = true) : (Th.s x).Ok := nm_txt h
theorem oT_ok {o : Option Int} (h : ∀ i, o = some i → -1000 ≤ i ∧ i ≤ 1000) : (oT o).Ok := by
  cases o with
  | none => trivial
  | some i => exact h i rfl
theorem late_i {o : Option Int} (h : LateOk o) : ∀ i, o = some i → -1000 ≤ i ∧ i ≤ 1000 := fun i e => by
  subst e
  obtain ⟨h1, h2⟩ := h
  omega
theorem bd_i {o : Option Int} (h : BdOk o) : ∀ i, o = some i → -1000 ≤ i ∧ i ≤ 1000 := fun i e => by
  subst e
  exact h
theorem sg_oT {o : Option Int} (h : ∀ i, o = some i → -1000 ≤ i ∧ i ≤ 1000) : sgOk 111 (oT o) := by
  cases o with
  | none => rfl
  | some i => exact ⟨.inr rfl, h i rfl⟩
structure RowFit (r : List Th) : Prop where
  len : r.length ≤ 10
  ok : ∀ t ∈ r, t.Ok
  read : F_read_deed [.str (lineOf r)] = .ret (rowD r) []
theorem fit_by {i : Int} (h : -1000 ≤ i ∧ i ≤ 1000) : RowFit (byR i) where
  len := by simp [byR]
  ok := fun t ht => by
    simp only [byR, List.mem_cons, List.not_mem_nil, or_false] at ht
    rcases ht with rfl | rfl
    · exact word_ok.1
    · exact h
  read := read_deed_ok (f := "n") (by rfl) (by decide +kernel) (by rfl) (by simp) (fun p hp => by
    have e : (("n" : Str).cps.toList.zip [Th.i i]) = [(110, Th.i i)] := rfl
    rw [e] at hp
    obtain rfl := List.mem_singleton.mp hp
    exact ⟨.inl rfl, h⟩) ⟨word_ok.1, fun t ht => by obtain rfl := List.mem_singleton.mp ht; exact h⟩
theorem fit_mo {x : Str} (h : isNm x = true ∧ x.length ≤ 10000) : RowFit (moR x) where
  len := by simp [moR]
  ok := fun t ht => by
    simp only [moR, List.mem_cons, List.not_mem_nil, or_false] at ht
    rcases ht with rfl | rfl
    · exact word_ok.2.1
    · exact nm_ok h.1
  read := read_deed_ok (f := "w") (by rfl) (by decide +kernel) (by rfl) (by simp) (fun p hp => by
    have e : (("w" : Str).cps.toList.zip [Th.s x]) = [(119, Th.s x)] := rfl
    rw [e] at hp
    obtain rfl := List.mem_singleton.mp hp
    exact ⟨rfl, h⟩) ⟨word_ok.2.1, fun t ht => by obtain rfl := List.mem_singleton.mp ht; exact nm_ok h.1⟩
theorem fit_sp {w : Wd} (h1 : isNm w.e = true ∧ w.e.length ≤ 10000) (h2 : isNm w.b = true ∧ w.b.length ≤ 10000) (h3 : 1 ≤ w.lo ∧ w.lo ≤ w.hi ∧ w.hi ≤ 1000) (h4 : LateOk w.late) : RowFit (spR w) := by
  have okr : ∀ t ∈ [Th.s w.e, Th.s w.b, Th.i w.lo, Th.i w.hi, oT w.late], t.Ok := fun t ht => by
    simp only [List.mem_cons, List.not_mem_nil, or_false] at ht
    rcases ht with rfl | rfl | rfl | rfl | rfl
    · exact nm_ok h1.1
    · exact nm_ok h2.1
    · exact (show -1000 ≤ w.lo ∧ w.lo ≤ 1000 by omega)
    · exact (show -1000 ≤ w.hi ∧ w.hi ≤ 1000 by omega)
    · exact oT_ok (late_i h4)
  refine ⟨by simp [spR], fun t ht => ?_, read_deed_ok (f := "wwnno") (by rfl) (by decide +kernel) (by rfl) (by simp) (fun p hp => ?_) ⟨word_ok.2.2.1, okr⟩⟩
  · rcases List.mem_cons.mp ht with rfl | ht
    · exact word_ok.2.2.1
    · exact okr t ht
  · have e : (("wwnno" : Str).cps.toList.zip [Th.s w.e, Th.s w.b, Th.i w.lo, Th.i w.hi, oT w.late]) = [(119, Th.s w.e), (119, Th.s w.b), (110, Th.i w.lo), (110, Th.i w.hi), (111, oT w.late)] := rfl
    rw [e] at hp
    simp only [List.mem_cons, List.not_mem_nil, or_false] at hp
    rcases hp with rfl | rfl | rfl | rfl | rfl
    · exact ⟨rfl, h1⟩
    · exact ⟨rfl, h2⟩
    · exact ⟨.inl rfl, by omega⟩
    · exact ⟨.inl rfl, by omega⟩
    · exact sg_oT (late_i h4)
theorem fit_ti {w : Bd} (h1 : isNm w.one = true ∧ w.one.length ≤ 10000) (h2 : isNm w.other = true ∧ w.other.length ≤ 10000) (h3 : BdOk w.least) (h4 : BdOk w.most) : RowFit (tiR w) := by
  have okr : ∀ t ∈ [Th.s w.one, Th.s w.other, oT w.least, oT w.most], t.Ok := fun t ht => by
    simp only [List.mem_cons, List.not_mem_nil, or_false] at ht
    rcases ht with rfl | rfl | rfl | rfl
    · exact nm_ok h1.1
    · exact nm_ok h2.1
    · exact oT_ok (bd_i h3)
    · exact oT_ok (bd_i h4)
  refine ⟨by simp [tiR], fun t ht => ?_, read_deed_ok (f := "wwoo") (by rfl) (by decide +kernel) (by rfl) (by simp) (fun p hp => ?_) ⟨word_ok.2.2.2, okr⟩⟩
  · rcases List.mem_cons.mp ht with rfl | ht
    · exact word_ok.2.2.2
    · exact okr t ht
  · have e : (("wwoo" : Str).cps.toList.zip [Th.s w.one, Th.s w.other, oT w.least, oT w.most]) = [(119, Th.s w.one), (119, Th.s w.other), (111, oT w.least), (111, oT w.most)] := rfl
    rw [e] at hp
    simp only [List.mem_cons, List.not_mem_nil, or_false] at hp
    rcases hp with rfl | rfl | rfl | rfl
    · exact ⟨rfl, h1⟩
    · exact ⟨rfl, h2⟩
    · exact sg_oT (bd_i h3)
    · exact sg_oT (bd_i h4)
theorem rows_fit {m : Mdl} (ok : MdlOk m) : ∀ r ∈ rowsOf m, RowFit r := fun r hr => by
  unfold rowsOf at hr
  rcases List.mem_cons.mp hr with rfl | hr
  · exact fit_by (by have := ok.by_; omega)
  · rcases List.mem_append.mp hr with hr | hr
    · obtain ⟨x, hx, rfl⟩ := List.mem_map.mp hr
      exact fit_mo (ok.nm x (List.mem_append_left _ hx))
    · rcases List.mem_append.mp hr with hr | hr
      · obtain ⟨w, hw, rfl⟩ := List.mem_map.mp hr
        obtain ⟨w1, w2, w3⟩ := ok.wok w hw
        exact fit_sp (pt_nm ok (end_pt hw)) (pt_nm ok (beg_pt ok hw)) w2 w3
      · obtain ⟨b, hb, rfl⟩ := List.mem_map.mp hr
        obtain ⟨b1, b2, b3, b4⟩ := ok.bok b hb
        exact fit_ti (pt_nm ok b1) (pt_nm ok b2) b4.bd.1 b4.bd.2
theorem rows_len {m : Mdl} (ok : MdlOk m) : (rowsOf m).length ≤ 60 := by
  have := ok.l1; have := ok.l2; have := ok.l3
  simp only [rowsOf, List.length_cons, List.length_append, List.length_map]
  omega
theorem line_nl {r : List Th} (h : ∀ t ∈ r, t.Ok) : 10 ∉ tl (lineOf r) := by
  unfold lineOf
  rw [join_eq, tl_join]
  have key : ∀ l : List (List Nat), (∀ p ∈ l, 10 ∉ p) → 10 ∉ joinL (tl " ") l := by
    intro l
    induction l with
    | nil => intro _ z; cases z
    | cons a l ih =>
      intro hl
      cases l with
      | nil => exact hl a (List.mem_cons_self ..)
      | cons b l =>
        show 10 ∉ a ++ (tl " " ++ joinL (tl " ") (b :: l))
        rw [List.mem_append, List.mem_append]
        rintro (z | z | z)
        · exact hl a (List.mem_cons_self ..) z
        · exact absurd z (by decide +kernel)
        · exact ih (fun p hp => hl p (List.mem_cons_of_mem _ hp)) z
  refine key _ fun p hp => ?_
  obtain ⟨x, hx, rfl⟩ := List.mem_map.mp hp
  obtain ⟨t, ht, rfl⟩ := List.mem_map.mp hx
  exact (Th.w_ok (h t ht)).2.2
theorem text_split {m : Mdl} (ok : MdlOk m) : gSplit (textOf m) (.str "\n") = some (L (((rowsOf m).map lineOf).map D.str)) := by
  have hl : ∀ x ∈ (rowsOf m).map lineOf, x.length ≤ 210 := fun x hx => by
    obtain ⟨r, hr, rfl⟩ := List.mem_map.mp hx
    have f := rows_fit ok r hr
    have := line_len r f.ok
    have := f.len
    omega
  have hz : (textOf m).length + 2 ≤ sizeLine := by
    have q := join_len (B := 210) "\n" hl
    rw [List.length_map] at q
    have := rows_len ok
    have e : ("\n" : Str).length = 1 := by decide +kernel
    rw [e] at q
    rw [sizeLine_eq]
    unfold textOf
    omega
  show (if _ then some (D.node true .lst ((Txt.split (textOf m) "\n").map .str)) else none) = _
  rw [if_pos ⟨by decide +kernel, hz⟩]
  unfold textOf
  rw [split_join (y := "\n") (s := 10) (S := []) (by decide +kernel) (by decide +kernel) (by simp [rowsOf]) fun p hp => ?_]
  obtain ⟨r, hr, rfl⟩ := List.mem_map.mp hp
  exact line_nl (rows_fit ok r hr).ok
theorem text_join {m : Mdl} (ok : MdlOk m) : gJoin "\n" (L (((rowsOf m).map lineOf).map D.str)) = some (.str (textOf m)) := by
  refine gJoin_ok (B := 210) (fun x hx => ?_) ?_
  · obtain ⟨r, hr, rfl⟩ := List.mem_map.mp hx
    have f := rows_fit ok r hr
    have := line_len r f.ok
    have := f.len
    omega
  · rw [List.length_map]
    have := rows_len ok
    have e : ("\n" : Str).length = 1 := by decide +kernel
    rw [e]
    omega
end My
namespace My
open PySem PySem.Spec L2 DL PL TL
theorem rowD_sp (w : Wd) : rowD (spR w) = .node false .tup [.str "span", .str w.e, .str w.b, .int w.lo, .int w.hi, oD w.late] := by
  show D.node false .tup [.str "span", .str w.e, .str w.b, .int w.lo, .int w.hi, (oT w.late).d] = _
  rw [oT_d]
theorem rowD_ti (w : Bd) : rowD (tiR w) = .node false .tup [.str "tie", .str w.one, .str w.other, oD w.least, oD w.most] := by
  show D.node false .tup [.str "tie", .str w.one, .str w.other, (oT w.least).d, (oT w.most).d] = _
  rw [oT_d, oT_d]
theorem sp_add (w : Wd) : oAdd [.node false .tup [.str "span"], w.d] = some (rowD (spR w)) := by
  rw [rowD_sp]
  simp [Wd.d, oAdd]
theorem ti_add (w : Bd) : oAdd [.node false .tup [.str "tie"], w.d] = some (rowD (tiR w)) := by
  rw [rowD_ti]
  simp [Bd.d, oAdd]
theorem rows_frz (l : List (List Th)) : frzL (l.map rowD) = true := frzL_of fun d h => by obtain ⟨z, _, rfl⟩ := List.mem_map.mp h; exact rowD_frz z
theorem web_deeds_ok {m : Mdl} (ok : MdlOk m) : F__law_web_deeds [m.dict] = .ret (L ((rowsOf m).map rowD)) [] := by
  have e3 : ∀ s1 s3 s4, compD (gChk (.bor none) G__law_web_deeds_3) T__law_web_deeds_3 E__law_web_deeds_3 [.bor none m.dict, s1, .dead, s3, s4] (m.own.map D.str) = some (m.own.map (rowD ∘ moR)) := fun s1 s3 s4 =>
    compD_map fun x _ => ⟨[.bor none m.dict, killS 2 s1, .own (.str x), killS 2 s3, killS 2 s4], [.bor none m.dict, killS 2 s1, .own (.str x), killS 2 s3, killS 2 s4], _, by simp [G__law_web_deeds_3], by simp [T__law_web_deeds_3], by simp [E__law_web_deeds_3]; exact ⟨rfl, rfl⟩⟩
  have e2 : ∀ s1 s2 s4, compD (gChk (.bor none) G__law_web_deeds_2) T__law_web_deeds_2 E__law_web_deeds_2 [.bor none m.dict, s1, s2, .dead, s4] (m.winds.map Wd.d) = some (m.winds.map (rowD ∘ spR)) := fun s1 s2 s4 =>
    compD_map fun x _ => ⟨[.bor none m.dict, killS 3 s1, killS 3 s2, .own x.d, killS 3 s4], [.bor none m.dict, killS 3 s1, killS 3 s2, .own x.d, killS 3 s4], _, by simp [G__law_web_deeds_2], by simp [T__law_web_deeds_2], by simp [E__law_web_deeds_2, sp_add]; rfl⟩
  have e1 : ∀ s1 s2 s3, compD (gChk (.bor none) G__law_web_deeds_1) T__law_web_deeds_1 E__law_web_deeds_1 [.bor none m.dict, s1, s2, s3, .dead] (m.bonds.map Bd.d) = some (m.bonds.map (rowD ∘ tiR)) := fun s1 s2 s3 =>
    compD_map fun x _ => ⟨[.bor none m.dict, killS 4 s1, killS 4 s2, killS 4 s3, .own x.d], [.bor none m.dict, killS 4 s1, killS 4 s2, killS 4 s3, .own x.d], _, by simp [G__law_web_deeds_1], by simp [T__law_web_deeds_1], by simp [E__law_web_deeds_1, ti_add]; rfl⟩
  have l1 := ok.l1; have l2 := ok.l2; have l3 := ok.l3
  have n1 : m.own.length ≤ 16777216 := by omega
  have n2 : m.winds.length ≤ 16777216 := by omega
  have n3 : m.bonds.length ≤ 16777216 := by omega
  have f1 : frzL (m.own.map (rowD ∘ moR)) = true := frzL_of fun d h => by obtain ⟨z, _, rfl⟩ := List.mem_map.mp h; exact rowD_frz _
  have f2 : frzL (m.winds.map (rowD ∘ spR)) = true := frzL_of fun d h => by obtain ⟨z, _, rfl⟩ := List.mem_map.mp h; exact rowD_frz _
  have f3 : frzL (m.bonds.map (rowD ∘ tiR)) = true := frzL_of fun d h => by obtain ⟨z, _, rfl⟩ := List.mem_map.mp h; exact rowD_frz _
  have eb : D.node false .tup [.str "by", .int m.by_] = rowD (byR m.by_) := rfl
  unfold F__law_web_deeds runF B__law_web_deeds
  simp (disch := omega) [e1, e2, e3, n1, n2, n3, f1, f2, f3, frzL_append, eb, if_pos]
  simp [rowsOf, Function.comp_def]
theorem write_web_ok {m : Mdl} (ok : MdlOk m) : F_write_web [m.web] = .ret (.str (textOf m)) [] := by
  have e4 : ∀ s1 s3 s4 s5, compD (gChk .own G_write_web_4) T_write_web_4 E_write_web_4 [.bor none m.web, s1, .dead, s3, s4, s5] (m.own.map D.str) = some (m.own.map (rowD ∘ moR)) := fun s1 s3 s4 s5 =>
    compD_map fun x _ => ⟨[.bor none m.web, killS 2 s1, .own (.str x), killS 2 s3, killS 2 s4, killS 2 s5], [.bor none m.web, killS 2 s1, .own (.str x), killS 2 s3, killS 2 s4, killS 2 s5], _, by simp [G_write_web_4], by simp [T_write_web_4], by simp [E_write_web_4]; exact ⟨rfl, rfl⟩⟩
  have e3 : ∀ s1 s2 s4 s5, compD (gChk .own G_write_web_3) T_write_web_3 E_write_web_3 [.bor none m.web, s1, s2, .dead, s4, s5] (m.winds.map Wd.d) = some (m.winds.map (rowD ∘ spR)) := fun s1 s2 s4 s5 =>
    compD_map fun x _ => ⟨[.bor none m.web, killS 3 s1, killS 3 s2, .own x.d, killS 3 s4, killS 3 s5], [.bor none m.web, killS 3 s1, killS 3 s2, .own x.d, killS 3 s4, killS 3 s5], _, by simp [G_write_web_3], by simp [T_write_web_3], by simp [E_write_web_3, sp_add]; rfl⟩
  have e2 : ∀ s1 s2 s3 s5, compD (gChk .own G_write_web_2) T_write_web_2 E_write_web_2 [.bor none m.web, s1, s2, s3, .dead, s5] (m.bonds.map Bd.d) = some (m.bonds.map (rowD ∘ tiR)) := fun s1 s2 s3 s5 =>
    compD_map fun x _ => ⟨[.bor none m.web, killS 4 s1, killS 4 s2, killS 4 s3, .own x.d, killS 4 s5], [.bor none m.web, killS 4 s1, killS 4 s2, killS 4 s3, .own x.d, killS 4 s5], _, by simp [G_write_web_2], by simp [T_write_web_2], by simp [E_write_web_2, ti_add]; rfl⟩
  have e1 : ∀ x1 s2 s3 s4, compD (gChk (.bor (some 1)) G_write_web_1) T_write_web_1 E_write_web_1 [.bor none m.web, .bor (some 1) x1, s2, s3, s4, .dead] ((rowsOf m).map rowD) = some (((rowsOf m).map lineOf).map D.str) := fun x1 s2 s3 s4 => by
    rw [List.map_map]
    refine compD_map fun r hr => ?_
    have f := rows_fit ok r hr
    have q : F_write_deed [rowD r] = .ret (.str (lineOf r)) [] := write_deed_ok r (by have := f.len; omega) f.ok
    exact ⟨[.bor none m.web, .bor (some 1) x1, killS 5 s2, killS 5 s3, killS 5 s4, .own (rowD r)], [.bor none m.web, .bor (some 1) x1, killS 5 s2, killS 5 s3, killS 5 s4, .own (rowD r)], _, by simp [G_write_web_1], by simp [T_write_web_1], by simp [E_write_web_1, q]; rfl⟩
  have l1 := ok.l1; have l2 := ok.l2; have l3 := ok.l3
  have n1 : m.own.length ≤ 16777216 := by omega
  have n2 : m.winds.length ≤ 16777216 := by omega
  have n3 : m.bonds.length ≤ 16777216 := by omega
  have f1 : frzL (m.own.map (rowD ∘ moR)) = true := frzL_of fun d h => by obtain ⟨z, _, rfl⟩ := List.mem_map.mp h; exact rowD_frz _
  have f2 : frzL (m.winds.map (rowD ∘ spR)) = true := frzL_of fun d h => by obtain ⟨z, _, rfl⟩ := List.mem_map.mp h; exact rowD_frz _
  have f3 : frzL (m.bonds.map (rowD ∘ tiR)) = true := frzL_of fun d h => by obtain ⟨z, _, rfl⟩ := List.mem_map.mp h; exact rowD_frz _
  have eb : D.node false .tup [.str "by", .int m.by_] = rowD (byR m.by_) := rfl
  have w1 : oFld "Web" "by" [m.web] = some (.int m.by_) := rfl
  have er : rowD (byR m.by_) :: (m.own.map (rowD ∘ moR) ++ (m.winds.map (rowD ∘ spR) ++ m.bonds.map (rowD ∘ tiR))) = (rowsOf m).map rowD := by simp [rowsOf, Function.comp_def]
  have nr : (rowsOf m).length ≤ 16777216 := by have := rows_len ok; omega
  have j := text_join ok
  unfold F_write_web runF B_write_web
  simp (disch := omega) [moments_eq, spans_eq, ties_eq, fzl_str, fzl_wds, fzl_bds, w1, e2, e3, e4, n1, n2, n3, f1, f2, f3, frzL_append, eb, if_pos, er, nr]
  rw [e1]
  simp [-List.map_map, nr, j]
end My
namespace My
open PySem PySem.Spec L2 DL PL TL
@[simp] theorem wne_by_moment : (("by" : Str) = ("moment" : Str)) = False := eq_false (by decide)
@[simp] theorem wne_by_span : (("by" : Str) = ("span" : Str)) = False := eq_false (by decide)
@[simp] theorem wne_by_tie : (("by" : Str) = ("tie" : Str)) = False := eq_false (by decide)
@[simp] theorem wne_by_without : (("by" : Str) = ("without" : Str)) = False := eq_false (by decide)
@[simp] theorem wne_by_untie : (("by" : Str) = ("untie" : Str)) = False := eq_false (by decide)
@[simp] theorem wne_by_e : (("by" : Str) = ("" : Str)) = False := eq_false (by decide)
@[simp] theorem wne_moment_by : (("moment" : Str) = ("by" : Str)) = False := eq_false (by decide)
@[simp] theorem wne_moment_span : (("moment" : Str) = ("span" : Str)) = False := eq_false (by decide)
@[simp] theorem wne_moment_tie : (("moment" : Str) = ("tie" : Str)) = False := eq_false (by decide)
@[simp] theorem wne_moment_without : (("moment" : Str) = ("without" : Str)) = False := eq_false (by decide)
@[simp] theorem wne_moment_untie : (("moment" : Str) = ("untie" : Str)) = False := eq_false (by decide)
@[simp] theorem wne_moment_e : (("moment" : Str) = ("" : Str)) = False := eq_false (by decide)
@[simp] theorem wne_span_by : (("span" : Str) = ("by" : Str)) = False := eq_false (by decide)
@[simp] theorem wne_span_moment : (("span" : Str) = ("moment" : Str)) = False := eq_false (by decide)
@[simp] theorem wne_span_tie : (("span" : Str) = ("tie" : Str)) = False := eq_false (by decide)
@[simp] theorem wne_span_without : (("span" : Str) = ("without" : Str)) = False := eq_false (by decide)
@[simp] theorem wne_span_untie : (("span" : Str) = ("untie" : Str)) = False := eq_false (by decide)
@[simp] theorem wne_span_e : (("span" : Str) = ("" : Str)) = False := eq_false (by decide)
@[simp] theorem wne_tie_by : (("tie" : Str) = ("by" : Str)) = False := eq_false (by decide)
@[simp] theorem wne_tie_moment : (("tie" : Str) = ("moment" : Str)) = False := eq_false (by decide)
@[simp] theorem wne_tie_span : (("tie" : Str) = ("span" : Str)) = False := eq_false (by decide)
@[simp] theorem wne_tie_without : (("tie" : Str) = ("without" : Str)) = False := eq_false (by decide)
@[simp] theorem wne_tie_untie : (("tie" : Str) = ("untie" : Str)) = False := eq_false (by decide)
@[simp] theorem wne_tie_e : (("tie" : Str) = ("" : Str)) = False := eq_false (by decide)
@[simp] theorem wne_without_by : (("without" : Str) = ("by" : Str)) = False := eq_false (by decide)
@[simp] theorem wne_without_moment : (("without" : Str) = ("moment" : Str)) = False := eq_false (by decide)
@[simp] theorem wne_without_span : (("without" : Str) = ("span" : Str)) = False := eq_false (by decide)
@[simp] theorem wne_without_tie : (("without" : Str) = ("tie" : Str)) = False := eq_false (by decide)
@[simp] theorem wne_without_untie : (("without" : Str) = ("untie" : Str)) = False := eq_false (by decide)
@[simp] theorem wne_without_e : (("without" : Str) = ("" : Str)) = False := eq_false (by decide)
@[simp] theorem wne_untie_by : (("untie" : Str) = ("by" : Str)) = False := eq_false (by decide)
@[simp] theorem wne_untie_moment : (("untie" : Str) = ("moment" : Str)) = False := eq_false (by decide)
@[simp] theorem wne_untie_span : (("untie" : Str) = ("span" : Str)) = False := eq_false (by decide)
@[simp] theorem wne_untie_tie : (("untie" : Str) = ("tie" : Str)) = False := eq_false (by decide)
@[simp] theorem wne_untie_without : (("untie" : Str) = ("without" : Str)) = False := eq_false (by decide)
@[simp] theorem wne_untie_e : (("untie" : Str) = ("" : Str)) = False := eq_false (by decide)
@[simp] theorem wne_e_by : (("" : Str) = ("by" : Str)) = False := eq_false (by decide)
@[simp] theorem wne_e_moment : (("" : Str) = ("moment" : Str)) = False := eq_false (by decide)
@[simp] theorem wne_e_span : (("" : Str) = ("span" : Str)) = False := eq_false (by decide)
@[simp] theorem wne_e_tie : (("" : Str) = ("tie" : Str)) = False := eq_false (by decide)
@[simp] theorem wne_e_without : (("" : Str) = ("without" : Str)) = False := eq_false (by decide)
@[simp] theorem wne_e_untie : (("" : Str) = ("untie" : Str)) = False := eq_false (by decide)
def pre (m : Mdl) (k : Nat) : Mdl := ⟨if k = 0 then 100 else m.by_, m.own.take (k - 1), m.winds.take (k - 1 - m.own.length), m.bonds.take (k - 1 - m.own.length - m.winds.length)⟩
theorem ap_by (m : Mdl) (h : m.Sm) {n : Int} (hn : 1 ≤ n ∧ n ≤ 1000) : F_applied [m.web, rowD (byR n)] = .ret ({ m with by_ := n } : Mdl).web [] := by
  have q := withby_ok m h hn
  have i1 : isIns "Web" "with_by" m.web = true := rfl
  unfold F_applied runF B_applied
  simp [rowD, byR, Th.d, gStarD, q, i1]
theorem ap_mo (m : Mdl) (s : Str) (h : m.Sm) (n : m.New s) (hs : s.length ≤ 10000) (hb : 1 ≤ m.by_ ∧ m.by_ ≤ 1000) (hl : m.own.length < 10) : F_applied [m.web, rowD (moR s)] = .ret ({ m with own := m.own ++ [s] } : Mdl).web [] := by
  have q := moment_ok m s h n hs hb hl
  unfold F_applied runF B_applied
  simp [rowD, moR, Th.d, gStarD, q]
theorem ap_sp (m : Mdl) (w : Wd) (h : m.Sm) (n : m.New w.e) (hs : w.e.length ≤ 10000) (hb : 1 ≤ m.by_ ∧ m.by_ ≤ 1000) (hl : m.winds.length < 4) (hw : w.b = "start" ∨ w.b ∈ m.own) (h1 : 1 ≤ w.lo ∧ w.lo ≤ w.hi ∧ w.hi ≤ 1000) (h2 : LateOk w.late) :
    F_applied [m.web, rowD (spR w)] = .ret ({ m with winds := m.winds ++ [w] } : Mdl).web [] := by
  have q := span_ok m w.e w.b w.lo w.hi w.late h n hs hb hl hw h1 h2
  rw [rowD_sp]
  unfold F_applied runF B_applied
  simp [gStarD, q]
theorem ap_ti (m : Mdl) (b : Bd) (h : m.Sm) (hi : 1 ≤ m.by_ ∧ m.by_ ≤ 1000) (ha : b.one ∈ m.points) (hb : b.other ∈ m.points) (hne : b.one ≠ b.other) (ht : TieOk b.least b.most) (hl : m.bonds.length < 40) :
    F_applied [m.web, rowD (tiR b)] = .ret ({ m with bonds := m.bonds ++ [b] } : Mdl).web [] := by
  have q := tie_ok m b.one b.other b.least b.most h hi ha hb hne ht hl
  rw [rowD_ti]
  unfold F_applied runF B_applied
  simp [gStarD, q]
def wordQ : Nat → Str
  | 0 => "by"
  | 1 => "moment"
  | 2 => "span"
  | _ => "tie"
def stL (n : Nat) : List Str := (["by", "moment", "span", "tie"] : List Str).drop n
def JS (m : Mdl) (k n : Nat) : Prop := n ≤ 3 ∧ (k ≤ 1 → n = 0) ∧ (k ≤ 1 + m.own.length → n ≤ 1) ∧ (k ≤ 1 + m.own.length + m.winds.length → n ≤ 2)
theorem rows_cases {m : Mdl} {k : Nat} {r : List Th} (h : (rowsOf m)[k]? = some r) : (k = 0 ∧ r = byR m.by_) ∨ (∃ j s, k = 1 + j ∧ m.own[j]? = some s ∧ r = moR s) ∨ (∃ j w, k = 1 + m.own.length + j ∧ m.winds[j]? = some w ∧ r = spR w) ∨ ∃ j b, k = 1 + m.own.length + m.winds.length + j ∧ m.bonds[j]? = some b ∧ r = tiR b := by
  unfold rowsOf at h
  cases k with
  | zero => exact .inl ⟨rfl, by simpa using h.symm⟩
  | succ k =>
    rw [List.getElem?_cons_succ] at h
    by_cases h1 : k < m.own.length
    · rw [List.getElem?_append_left (by rw [List.length_map]; exact h1), List.getElem?_map, Option.map_eq_some_iff] at h
      obtain ⟨s, hs, rfl⟩ := h
      exact .inr (.inl ⟨k, s, by omega, hs, rfl⟩)
    · rw [List.getElem?_append_right (by rw [List.length_map]; omega), List.length_map] at h
      by_cases h2 : k - m.own.length < m.winds.length
      · rw [List.getElem?_append_left (by rw [List.length_map]; exact h2), List.getElem?_map, Option.map_eq_some_iff] at h
        obtain ⟨s, hs, rfl⟩ := h
        exact .inr (.inr (.inl ⟨_, s, by omega, hs, rfl⟩))
      · rw [List.getElem?_append_right (by rw [List.length_map]; omega), List.length_map, List.getElem?_map, Option.map_eq_some_iff] at h
        obtain ⟨s, hs, rfl⟩ := h
        exact .inr (.inr (.inr ⟨_, s, by omega, hs, rfl⟩))
theorem pre_sm {m : Mdl} (ok : MdlOk m) (k : Nat) : (pre m k).Sm := by
  have := ok.l1; have := ok.l2; have := ok.l3
  refine ⟨?_, ?_, ?_⟩ <;> (show (List.take _ _).length ≤ 100; rw [List.length_take]; omega)
theorem take_all {α : Type} {l : List α} {n : Nat} (h : l.length ≤ n) : l.take n = l := List.take_of_length_le h
theorem take_add {α : Type} {l : List α} {j : Nat} {y : α} (h : l[j]? = some y) : l.take (j + 1) = l.take j ++ [y] := by rw [List.take_add_one, h]; rfl
theorem nd_take {l : List Str} (h : l.Nodup) {j : Nat} {y : Str} (hy : l[j]? = some y) : y ∉ l.take j := fun z => by
  have q : (l.take (j + 1)).Nodup := h.sublist (List.take_sublist _ _)
  rw [take_add hy] at q
  exact (List.nodup_append.mp q).2.2 _ z _ (List.mem_singleton.mpr rfl) rfl
structure RowAt (m : Mdl) (k : Nat) (r : List Th) : Prop where
  ap : F_applied [(pre m k).web, rowD r] = .ret (pre m (k + 1)).web []
  q : ∃ q ts, q ≤ 3 ∧ r = .s (wordQ q) :: ts ∧ (k = 0 ↔ q = 0) ∧ (∀ n, JS m k n → n ≤ q) ∧ JS m (k + 1) q
theorem row_at {m : Mdl} (ok : MdlOk m) {k : Nat} {r : List Th} (h : (rowsOf m)[k]? = some r) : RowAt m k r := by
  have l1 := ok.l1; have l2 := ok.l2; have l3 := ok.l3
  have nd := List.nodup_cons.mp ok.nd
  have nds := List.nodup_append.mp nd.2
  rcases rows_cases h with ⟨rfl, rfl⟩ | ⟨j, s, rfl, hs, rfl⟩ | ⟨j, w, rfl, hw, rfl⟩ | ⟨j, b, rfl, hb, rfl⟩
  · refine ⟨?_, 0, [.i m.by_], by decide, rfl, by simp, fun n hn => by have := hn.2.1 (by omega); omega, ⟨by omega, by simp, by simp, by simp⟩⟩
    have z := ap_by (pre m 0) (pre_sm ok 0) ok.by_
    rw [z]
    simp [pre]
  · have hj := (List.getElem?_eq_some_iff.mp hs).1
    have hm := List.mem_of_getElem? hs
    refine ⟨?_, 1, [.s s], by decide, rfl, by first | (simp; done) | (simp; omega), fun n hn => hn.2.2.1 (by omega), ⟨by omega, by omega, by omega, by omega⟩⟩
    have e1 : pre m (1 + j) = ⟨m.by_, m.own.take j, [], []⟩ := by
      have a1 : 1 + j - 1 = j := by omega
      have a2 : j - m.own.length = 0 := by omega
      simp [pre, a1, a2]
    have e2 : pre m (1 + j + 1) = ⟨m.by_, m.own.take j ++ [s], [], []⟩ := by
      have a1 : 1 + j + 1 - 1 = j + 1 := by omega
      have a2 : j + 1 - m.own.length = 0 := by omega
      simp [pre, a1, a2, take_add hs]
    rw [e1, e2]
    have nm := ok.nm s (List.mem_append_left _ hm)
    refine ap_mo ⟨m.by_, m.own.take j, [], []⟩ s ⟨by show (m.own.take j).length ≤ 100; rw [List.length_take]; omega, by simp, by simp⟩ ⟨nm.1, ?_⟩ nm.2 ok.by_ (by show (m.own.take j).length < 10; rw [List.length_take]; omega)
    simp only [Mdl.points, List.map_nil, List.append_nil, List.mem_cons, not_or]
    exact ⟨fun e => nd.1 (List.mem_append_left _ (e ▸ hm)), nd_take nds.1 hs⟩
  · have hj := (List.getElem?_eq_some_iff.mp hw).1
    have hm := List.mem_of_getElem? hw
    refine ⟨?_, 2, [.s w.e, .s w.b, .i w.lo, .i w.hi, oT w.late], by decide, rfl, by first | (simp; done) | (simp; omega), fun n hn => hn.2.2.2 (by omega), ⟨by omega, by omega, by omega, by omega⟩⟩
    have e1 : pre m (1 + m.own.length + j) = ⟨m.by_, m.own, m.winds.take j, []⟩ := by
      have a1 : 1 + m.own.length + j - 1 = m.own.length + j := by omega
      have a2 : m.own.length + j - m.own.length = j := by omega
      have a3 : j - m.winds.length = 0 := by omega
      have a4 : ¬ (1 + m.own.length + j = 0) := by omega
      have t1 : ∀ i, m.own.take (m.own.length + i) = m.own := fun i => take_all (by omega)
      have t2 : ∀ i, m.winds.take (m.winds.length + i) = m.winds := fun i => take_all (by omega)
      simp [pre, a1, a2, a3, a4, t1, t2]
    have e2 : pre m (1 + m.own.length + j + 1) = ⟨m.by_, m.own, m.winds.take j ++ [w], []⟩ := by
      have a1 : 1 + m.own.length + j + 1 - 1 = m.own.length + (j + 1) := by omega
      have a2 : m.own.length + (j + 1) - m.own.length = j + 1 := by omega
      have a3 : j + 1 - m.winds.length = 0 := by omega
      have t1 : ∀ i, m.own.take (m.own.length + i) = m.own := fun i => take_all (by omega)
      have t2 : ∀ i, m.winds.take (m.winds.length + i) = m.winds := fun i => take_all (by omega)
      simp [pre, a1, a2, a3, take_add hw, t1, t2]
    rw [e1, e2]
    obtain ⟨w1, w2, w3⟩ := ok.wok w hm
    have hme : w.e ∈ m.winds.map (·.e) := List.mem_map.mpr ⟨w, hm, rfl⟩
    have nm := ok.nm w.e (List.mem_append_right _ hme)
    refine ap_sp ⟨m.by_, m.own, m.winds.take j, []⟩ w ⟨by show m.own.length ≤ 100; omega, by show (m.winds.take j).length ≤ 100; rw [List.length_take]; omega, by simp⟩ ⟨nm.1, ?_⟩ nm.2 ok.by_ (by show (m.winds.take j).length < 4; rw [List.length_take]; omega) w1 w2 w3
    simp only [Mdl.points, List.mem_cons, List.mem_append, not_or]
    refine ⟨fun e => nd.1 (List.mem_append_right _ (e ▸ hme)), fun z => nds.2.2 _ z _ hme rfl, fun z => ?_⟩
    rw [List.map_take] at z
    exact nd_take nds.2.1 (by rw [List.getElem?_map, hw]; rfl) z
  · have hj := (List.getElem?_eq_some_iff.mp hb).1
    have hm := List.mem_of_getElem? hb
    refine ⟨?_, 3, [.s b.one, .s b.other, oT b.least, oT b.most], by decide, rfl, by first | (simp; done) | (simp; omega), fun n hn => hn.1, ⟨by omega, by omega, by omega, by omega⟩⟩
    have e1 : pre m (1 + m.own.length + m.winds.length + j) = ⟨m.by_, m.own, m.winds, m.bonds.take j⟩ := by
      have a1 : 1 + m.own.length + m.winds.length + j - 1 = m.own.length + (m.winds.length + j) := by omega
      have a2 : m.own.length + (m.winds.length + j) - m.own.length = m.winds.length + j := by omega
      have a3 : m.winds.length + j - m.winds.length = j := by omega
      have a4 : ¬ (1 + m.own.length + m.winds.length + j = 0) := by omega
      have t1 : ∀ i, m.own.take (m.own.length + i) = m.own := fun i => take_all (by omega)
      have t2 : ∀ i, m.winds.take (m.winds.length + i) = m.winds := fun i => take_all (by omega)
      simp [pre, a1, a2, a3, a4, t1, t2]
    have e2 : pre m (1 + m.own.length + m.winds.length + j + 1) = ⟨m.by_, m.own, m.winds, m.bonds.take j ++ [b]⟩ := by
      have a1 : 1 + m.own.length + m.winds.length + j + 1 - 1 = m.own.length + (m.winds.length + (j + 1)) := by omega
      have a2 : m.own.length + (m.winds.length + (j + 1)) - m.own.length = m.winds.length + (j + 1) := by omega
      have a3 : m.winds.length + (j + 1) - m.winds.length = j + 1 := by omega
      have t1 : ∀ i, m.own.take (m.own.length + i) = m.own := fun i => take_all (by omega)
      have t2 : ∀ i, m.winds.take (m.winds.length + i) = m.winds := fun i => take_all (by omega)
      simp [pre, a1, a2, a3, take_add hb, t1, t2]
    rw [e1, e2]
    obtain ⟨b1, b2, b3, b4⟩ := ok.bok b hm
    exact ap_ti ⟨m.by_, m.own, m.winds, m.bonds.take j⟩ b ⟨by show m.own.length ≤ 100; omega, by show m.winds.length ≤ 100; omega, by show (m.bonds.take j).length ≤ 100; rw [List.length_take]; omega⟩ ok.by_ b1 b2 b3 b4 (by show (m.bonds.take j).length < 40; rw [List.length_take]; omega)
end My
namespace My
open PySem PySem.Spec L2 DL PL TL
theorem wq_in {n q : Nat} (h : n ≤ q) (h3 : q ≤ 3) : wordQ q ∈ stL n ∧ (stL n).idxOf (wordQ q) = q - n ∧ ((stL n).map D.str).drop (q - n) = (stL q).map D.str := by
  rcases (show q = 0 ∨ q = 1 ∨ q = 2 ∨ q = 3 by omega) with rfl | rfl | rfl | rfl
  · obtain rfl : n = 0 := by omega
    exact ⟨by decide +kernel, by decide +kernel, rfl⟩
  · rcases (show n = 0 ∨ n = 1 by omega) with rfl | rfl <;> exact ⟨by decide +kernel, by decide +kernel, rfl⟩
  · rcases (show n = 0 ∨ n = 1 ∨ n = 2 by omega) with rfl | rfl | rfl <;> exact ⟨by decide +kernel, by decide +kernel, rfl⟩
  · rcases (show n = 0 ∨ n = 1 ∨ n = 2 ∨ n = 3 by omega) with rfl | rfl | rfl | rfl <;> exact ⟨by decide +kernel, by decide +kernel, rfl⟩
theorem wq_by (q : Nat) : decide (wordQ q = "by") = decide (q = 0) := by
  match q with
  | 0 => decide +kernel
  | 1 => decide +kernel
  | 2 => decide +kernel
  | n + 3 =>
    have e : wordQ (n + 3) = "tie" := rfl
    rw [e]
    have : ¬ (n + 3 = 0) := by omega
    rw [decide_eq_false this]
    decide +kernel
theorem body_read {t line x : Str} {w w' row : D} {ts : List D} {st st' : List Str} {k : Nat} {i : Int} {s5 : Sl} (h5 : SlF s5) (hr : row = .node false .tup (.str x :: ts)) (hrz : row.frz = true) (h1 : F_read_deed [.str line] = .ret row []) (h2 : F_applied [w, row] = .ret w' [])
    (hx : x ∈ st) (hi : st.idxOf x = i.toNat) (hi0 : 0 ≤ i) (hd : (st.map D.str).drop i.toNat = st'.map D.str) (hb : decide (x = "by") = decide (k = 0)) :
    L_read_web_1 [.bor none (.str t), .own w, .own (L (st.map .str)), .own (.int k), .own (.str line), s5, .dead] = .nxt [.bor none (.str t), .own w', .own (L (st'.map .str)), .own (.int k), .own (.str line), .own row, .dead] := by
  have g : gIdx (L (st.map .str)) [.str x] = some (.int i) := by
    show ((strsD (st.map D.str)).bind fun ss => if x ∈ ss then some (D.int (ss.idxOf x)) else none) = _
    rw [strsD_map, Option.bind_some, if_pos hx, hi]
    congr 2
    omega
  have sl : oSl (L (st.map .str)) (some i) none = some (L (st'.map .str)) := by rw [oSl_drop hi0 frzL_map_str, hd]
  have ni : oNotInAny [.str x, L (st.map .str)] = some (.bl false) := by rw [oNotIn_str, decide_eq_true hx]; rfl
  have il : isLst (L (st.map .str)) = true := rfl
  have it : oItm [row, .int 0] = some (.str x) := by rw [hr]; simp
  have e1 : oEqF [.str x, .str "by"] = some (.bl (decide (k = 0))) := by rw [oEq_ss, hb]
  have e2 : oEqF [.int (k : Int), .int 0] = some (.bl (decide (k = 0))) := by rw [oEq_ii]; congr 2; simp
  generalize decide (k = 0) = b at e1 e2
  have e3 : oNeF [.bl b, .bl b] = some (.bl false) := by rw [oNe_bb]; simp
  generalize L (st.map D.str) = a at *
  generalize L (st'.map D.str) = a' at *
  unfold L_read_web_1
  rcases h5 with rfl | ⟨y, rfl⟩ <;> simp [-oEq_ss, -oNe_bb, -oEq_ii, -oItm_t, h1, h2, g, sl, ni, il, it, e1, e2, e3, hrz]
theorem enumD_get {xs : List D} {i : Nat} {d : D} (h : (enumD xs)[i]? = some d) : ∃ y, xs[i]? = some y ∧ d = .node false .tup [.int (i : Nat), y] := by
  unfold enumD at h
  rw [List.getElem?_mapIdx, Option.map_eq_some_iff] at h
  obtain ⟨y, hy, rfl⟩ := h
  exact ⟨y, hy, rfl⟩
theorem loop_read {m : Mdl} (ok : MdlOk m) (t : Str) : ∃ n s3 s4 s5, SlF s3 ∧ SlF s4 ∧ SlF s5 ∧ loopD (gChk .own G_read_web_1) L_read_web_1 (enumD (((rowsOf m).map lineOf).map D.str)) [.bor none (.str t), .own (pre m 0).web, .own (L ((stL 0).map .str)), .dead, .dead, .dead, .dead] =
    .nxt [.bor none (.str t), .own (pre m (rowsOf m).length).web, .own (L ((stL n).map .str)), s3, s4, s5, .dead] := by
  obtain ⟨e', h1, n, s3, s4, s5, _, f3, f4, f5, rfl⟩ := loopD_inv (g := gChk .own G_read_web_1) (fb := L_read_web_1) (fun k e => ∃ n s3 s4 s5, JS m k n ∧ SlF s3 ∧ SlF s4 ∧ SlF s5 ∧ e = [.bor none (.str t), .own (pre m k).web, .own (L ((stL n).map .str)), s3, s4, s5, .dead])
    (enumD (((rowsOf m).map lineOf).map D.str)) 0 [.bor none (.str t), .own (pre m 0).web, .own (L ((stL 0).map .str)), .dead, .dead, .dead, .dead] ⟨0, .dead, .dead, .dead, ⟨by omega, by omega, by omega, by omega⟩, slF_dead, slF_dead, slF_dead, rfl⟩ (by
      rintro i x e hx ⟨n, s3, s4, s5, js, k3, k4, k5, rfl⟩
      rw [Nat.zero_add] at js ⊢
      obtain ⟨y, hy, rfl⟩ := enumD_get hx
      rw [List.map_map, List.getElem?_map, Option.map_eq_some_iff] at hy
      obtain ⟨r, hr, rfl⟩ := hy
      have fit := rows_fit ok r (List.mem_of_getElem? hr)
      obtain ⟨ap, q, ts, q3, rfl, q0, qn, qj⟩ := row_at ok hr
      obtain ⟨w1, w2, w3⟩ := wq_in (qn n js) q3
      refine ⟨[.bor none (.str t), .own (pre m i).web, .own (L ((stL n).map .str)), .own (.int (i : Nat)), .own (.str (lineOf (.s (wordQ q) :: ts))), killS 4 (killS 3 s5), .dead], ?_, [.bor none (.str t), .own (pre m (i + 1)).web, .own (L ((stL q).map .str)), .own (.int (i : Nat)), .own (.str (lineOf (.s (wordQ q) :: ts))), .own (rowD (.s (wordQ q) :: ts)), .dead], .inl ?_, q, _, _, _, qj, slF_own, slF_own, slF_own, rfl⟩
      · simp [G_read_web_1]
      · refine body_read (i := ((q - n : Nat) : Int)) (by rw [killS_f k5, killS_f k5]; exact k5) rfl (rowD_frz _) fit.read ap w1 (by rw [w2]; rfl) (Int.natCast_nonneg _) (by rw [Int.toNat_natCast]; exact w3) ?_
        rw [wq_by]
        by_cases z : q = 0
        · rw [decide_eq_true z, decide_eq_true (q0.mpr z)]
        · rw [decide_eq_false z, decide_eq_false fun h => z (q0.mp h)])
  refine ⟨n, s3, s4, s5, f3, f4, f5, ?_⟩
  have e : (enumD (((rowsOf m).map lineOf).map D.str)).length = (rowsOf m).length := by simp [enumD]
  rw [e, Nat.zero_add] at h1
  exact h1
theorem pre_end {m : Mdl} : pre m (rowsOf m).length = m := by
  have e : (rowsOf m).length = 1 + m.own.length + m.winds.length + m.bonds.length := by
    simp only [rowsOf, List.length_cons, List.length_append, List.length_map]
    omega
  have a1 : 1 + m.own.length + m.winds.length + m.bonds.length - 1 = m.own.length + (m.winds.length + m.bonds.length) := by omega
  have a2 : m.own.length + (m.winds.length + m.bonds.length) - m.own.length = m.winds.length + m.bonds.length := by omega
  have a3 : m.winds.length + m.bonds.length - m.winds.length = m.bonds.length := by omega
  have a4 : ¬ (1 + m.own.length + m.winds.length + m.bonds.length = 0) := by omega
  rw [e]
  have t1 : ∀ i, m.own.take (m.own.length + i) = m.own := fun i => take_all (by omega)
  have t2 : ∀ i, m.winds.take (m.winds.length + i) = m.winds := fun i => take_all (by omega)
  simp [pre, a1, a2, a3, a4, t1, t2]
theorem read_web_ok {m : Mdl} (ok : MdlOk m) : F_read_web [.str (textOf m)] = .ret m.web [] := by
  obtain ⟨n, s3, s4, s5, f3, f4, f5, lp⟩ := loop_read ok (textOf m)
  have sp := text_split ok
  rw [pre_end] at lp
  have w0 : (pre m 0).web = wbD (.int 100) (L []) (L []) (L []) := by simp [pre, Mdl.web]
  have wi := web_init (i := 100) (by omega)
  have fz : frzL (((rowsOf m).map lineOf).map D.str) = true := frzL_map_str
  generalize ((rowsOf m).map lineOf).map D.str = ls at *
  have fz2 : fzL ls = ls := fzL_of_frz _ fz
  rw [w0] at lp
  have s0 : L ((stL 0).map D.str) = L [.str "by", .str "moment", .str "span", .str "tie"] := rfl
  rw [s0] at lp
  unfold F_read_web runF B_read_web
  rcases f3 with rfl | ⟨y3, rfl⟩ <;> rcases f4 with rfl | ⟨y4, rfl⟩ <;> rcases f5 with rfl | ⟨y5, rfl⟩ <;> simp [wi, sp, fz, fz2, lp]
end My
namespace My
open PySem PySem.Spec L2 DL PL TL
theorem eqv_self (m : Mdl) : PyData.eqv m.P m.P = true := (Mdl.eqv m m).mpr rfl
theorem own_eq {a b : Mdl} (oa : MdlOk a) (ob : MdlOk b) : ownEqD "Web" (zF [false, false] F_Web___eq__) [a.web, b.web] = some (.bl (PyData.eqv a.P b.P)) := by
  show (if isInsD "Web" a.web = true ∧ eqTy "Web" b.web = true then (match zF [false, false] F_Web___eq__ [a.web, b.web] with | .ret (.bl b) [] => some (D.bl b) | _ => none) else none) = _
  rw [eq_webs oa ob]
  exact if_pos ⟨rfl, rfl⟩
def m7 : Mdl := ⟨7, [], [], []⟩
theorem m7_ok : MdlOk m7 where
  by_ := by decide
  nd := by simp [m7, Mdl.points]
  nm := fun x hx => by simp [m7] at hx
  l1 := by simp [m7]
  l2 := by simp [m7]
  l3 := by simp [m7]
  wok := fun w hw => by simp [m7] at hw
  bok := fun w hw => by simp [m7] at hw
theorem m7_web : m7.web = wbD (.int 7) (L []) (L []) (L []) := by simp [m7, Mdl.web]
theorem m7_text : textOf m7 = "by 7" := by decide +kernel
theorem same_str (s : Str) : F__law_same [.str s, .str s] = .ret (.bl true) [] := same_true 8 _ _ trivial rfl
theorem lines_ok {m : Mdl} (ok : MdlOk m) (s0 s1 s2 s3 s4 s5 s6 s7 s8 : Sl) (h0 : killS 9 s0 = s0) (h1 : killS 9 s1 = s1) (h2 : killS 9 s2 = s2) (h3 : killS 9 s3 = s3) (h4 : killS 9 s4 = s4) (h5 : killS 9 s5 = s5) (h6 : killS 9 s6 = s6) (h7 : killS 9 s7 = s7) (h8 : killS 9 s8 = s8) :
    compD (gChk .own G_law_1) T_law_1 E_law_1 [s0, s1, s2, s3, s4, s5, s6, s7, s8, .dead] ((rowsOf m).map rowD) = some (((rowsOf m).map lineOf).map D.str) := by
  rw [List.map_map]
  refine compD_map fun r hr => ?_
  have f := rows_fit ok r hr
  have q : F__law_deed_line [rowD r] = .ret (.str (lineOf r)) [] := deed_line_ok r (by have := f.len; omega) f.ok
  exact ⟨[s0, s1, s2, s3, s4, s5, s6, s7, s8, .own (rowD r)], [s0, s1, s2, s3, s4, s5, s6, s7, s8, .own (rowD r)], _, by simp [G_law_1, h0, h1, h2, h3, h4, h5, h6, h7, h8], by simp [T_law_1], by simp [E_law_1, q]; rfl⟩
theorem law_ok (xs : List Int) : F_law [.scr xs] = .ret (.bl true) [] := by
  obtain ⟨f0, e0, g0⟩ := flow_ok xs
  obtain ⟨r1, f1, e1, g1, a1, b1⟩ := draw_ok (n := 10) g0 (by omega) (by omega)
  obtain ⟨r2, f2, e2, g2, a2, b2⟩ := draw_ok (n := 5) g1 (by omega) (by omega)
  obtain ⟨r3, f3, e3, g3, a3, b3⟩ := draw_ok (n := 41) g2 (by omega) (by omega)
  obtain ⟨x4, f4, e4, g4, h4⟩ := pick_ok (f := f3) (o := true) (xs := [.int 0, .int 3, .int 40, .int r3]) g3 (by simp) (by simp) (by simp)
  have h4' : ∃ n4 : Nat, x4 = .int n4 ∧ n4 ≤ 40 := by
    simp only [List.mem_cons, List.not_mem_nil, or_false] at h4
    rcases h4 with rfl | rfl | rfl | rfl
    · exact ⟨0, rfl, by omega⟩
    · exact ⟨3, rfl, by omega⟩
    · exact ⟨40, rfl, by omega⟩
    · exact ⟨r3.toNat, by rw [Int.toNat_of_nonneg a3], by omega⟩
  obtain ⟨n4, rfl, h40⟩ := h4'
  obtain ⟨r5, f5, e5, g5, a5, b5⟩ := draw_ok (n := 250) g4 (by omega) (by omega)
  obtain ⟨r6, f6, e6, g6, a6, b6⟩ := draw_ok (n := 1000) g5 (by omega) (by omega)
  obtain ⟨n1, rfl⟩ := Int.eq_ofNat_of_zero_le a1
  obtain ⟨n2, rfl⟩ := Int.eq_ofNat_of_zero_le a2
  obtain ⟨m, f7, e7, g7, hd⟩ := drawn_ok (n1 := 1 + n1) (n2 := n2) (n3 := n4) (far := 1 + r5) (last := 1 + r6) g6 (by omega) (by omega) (by omega) (by omega)
  have ok := hd.ok (by omega) (by omega) (by omega) (by omega) (by omega)
  have e7' : F__law_drawn [f6, .int (1 + (n1 : Int)), .int n2, .int n4, .int (1 + r5), .int (1 + r6)] = .ret m.dict [f7] := by rw [← e7]; simp
  have e8 := lweb_ok m ok
  have e9 := web_deeds_ok ok
  have e10 := write_web_ok ok
  have e11 := read_web_ok ok
  have e12 := standsZ m ok.sm ok.by_
  have e13 := own_eq ok ok
  rw [eqv_self] at e13
  have e14 := same_str (textOf m)
  have hc := fun (s0 s1 s2 s3 s4 s5 s6 s7 s8 : Sl) => lines_ok ok s0 s1 s2 s3 s4 s5 s6 s7 s8
  have j := text_join ok
  have nr : (rowsOf m).length ≤ 16777216 := by have := rows_len ok; omega
  have fz : fzL ((rowsOf m).map rowD) = (rowsOf m).map rowD := fzL_of_frz _ (rows_frz _)
  have w7 := web_init (i := 7) (by omega)
  rw [← m7_web] at w7
  have e15 := write_web_ok m7_ok
  have e16 := read_web_ok m7_ok
  rw [m7_text] at e15 e16
  have e17 := own_eq m7_ok m7_ok
  rw [eqv_self] at e17
  have z7 : m7.web.frz = false := rfl
  rw [show F_law = runF [false] 10 B_law from rfl]
  unfold runF B_law
  simp (disch := omega) [-List.map_map, e0, e1, e2, e3, e4, e5, e6, e7', e8, e9, e10, e11, e12, e13, e14, hc, j, nr, fz, w7, e15, e16, e17]
  rw [hc _ _ _ _ _ _ _ _ _ rfl rfl rfl rfl rfl rfl rfl rfl rfl]
  simp (disch := omega) [-List.map_map, e8, e9, e10, e11, e12, e13, e14, j, nr, fz, w7, e15, e16, e17]
end My
namespace My
open PySem PySem.Spec L2 DL
theorem facts {P : Program} {w : World} {K : PySem.W.Frag} {h : Heap} {mg : Str → Option Value} {f : Addr} (X : K.In h) (G : h.Ns mainGlobals mg) (hfa : mg ("law" : Str) = some (.ref f)) (c : He.SaysX fa2 fn [(fun K => He.ga K "FORMS", ["by", "moment", "span", "tie", "without", "untie"])] [] ex w h K) :
    ∃ fd : FuncData, (∀ (s : Shared) (v : Value), BindsTo s fd ⟨[v], []⟩ [("_law_script", v)]) ∧ ∀ base : Heap, K.In base → base.Ns mainGlobals mg → FnOk P w K mg base (L2.CX P w) 11 f fd ["_law_script"] (spD K [false] F_law) := by
  have fc : FC fa K mg := FC_of X G fun i f hi => c.t.d.fact i (f := f) (get_app hi)
  have hex := c.more
  unfold ex at hex
  simp only [Bool.and_eq_true] at hex
  obtain ⟨⟨⟨⟨⟨⟨⟨h_tab_Web, h_tab_bool⟩, h_tab_int⟩, h_tab_list⟩, h_tab_tuple⟩, h_tab_dict⟩, h_tab_str⟩, sv_FORMS⟩ := hex
  obtain ⟨fd_Web___eq__, fn_Web___eq__⟩ := c.t.d.def_ 0 (d := dd_Web___eq__) rfl
  obtain ⟨fd_is_within, fn_is_within⟩ := c.t.d.def_ 1 (d := dd_is_within) rfl
  obtain ⟨fd_Web___init__, fn_Web___init__⟩ := c.t.d.def_ 2 (d := dd_Web___init__) rfl
  obtain ⟨fd__law_deed_line, fn__law_deed_line⟩ := c.t.d.def_ 3 (d := dd__law_deed_line) rfl
  obtain ⟨fd__law_draw, fn__law_draw⟩ := c.t.d.def_ 4 (d := dd__law_draw) rfl
  obtain ⟨fd__law_pick, fn__law_pick⟩ := c.t.d.def_ 5 (d := dd__law_pick) rfl
  obtain ⟨fd__law_bond, fn__law_bond⟩ := c.t.d.def_ 6 (d := dd__law_bond) rfl
  obtain ⟨fd__law_model, fn__law_model⟩ := c.t.d.def_ 7 (d := dd__law_model) rfl
  obtain ⟨fd__law_names, fn__law_names⟩ := c.t.d.def_ 8 (d := dd__law_names) rfl
  obtain ⟨fd__law_points, fn__law_points⟩ := c.t.d.def_ 9 (d := dd__law_points) rfl
  obtain ⟨fd__law_wind, fn__law_wind⟩ := c.t.d.def_ 10 (d := dd__law_wind) rfl
  obtain ⟨fd__law_drawn, fn__law_drawn⟩ := c.t.d.def_ 11 (d := dd__law_drawn) rfl
  obtain ⟨fd__law_flow, fn__law_flow⟩ := c.t.d.def_ 12 (d := dd__law_flow) rfl
  obtain ⟨fd__law_same, fn__law_same⟩ := c.t.d.def_ 13 (d := dd__law_same) rfl
  obtain ⟨fd_Web___len__, fn_Web___len__⟩ := c.t.d.def_ 14 (d := dd_Web___len__) rfl
  obtain ⟨fd_Web___repr__, fn_Web___repr__⟩ := c.t.d.def_ 15 (d := dd_Web___repr__) rfl
  obtain ⟨fd_Web_moments, fn_Web_moments⟩ := c.t.d.def_ 16 (d := dd_Web_moments) rfl
  obtain ⟨fd_Web_points, fn_Web_points⟩ := c.t.d.def_ 17 (d := dd_Web_points) rfl
  obtain ⟨fd_Web_spans, fn_Web_spans⟩ := c.t.d.def_ 18 (d := dd_Web_spans) rfl
  obtain ⟨fd_Web_ties, fn_Web_ties⟩ := c.t.d.def_ 19 (d := dd_Web_ties) rfl
  obtain ⟨fd__law_stands, fn__law_stands⟩ := c.t.d.def_ 20 (d := dd__law_stands) rfl
  obtain ⟨fd_is_name, fn_is_name⟩ := c.t.d.def_ 21 (d := dd_is_name) rfl
  obtain ⟨fd_Web_need_new, fn_Web_need_new⟩ := c.t.d.def_ 22 (d := dd_Web_need_new) rfl
  obtain ⟨fd_Web_turned, fn_Web_turned⟩ := c.t.d.def_ 23 (d := dd_Web_turned) rfl
  obtain ⟨fd_Web_with_moment, fn_Web_with_moment⟩ := c.t.d.def_ 24 (d := dd_Web_with_moment) rfl
  obtain ⟨fd_need_late, fn_need_late⟩ := c.t.d.def_ 25 (d := dd_need_late) rfl
  obtain ⟨fd_need_lengths, fn_need_lengths⟩ := c.t.d.def_ 26 (d := dd_need_lengths) rfl
  obtain ⟨fd_Web_with_span, fn_Web_with_span⟩ := c.t.d.def_ 27 (d := dd_Web_with_span) rfl
  obtain ⟨fd_is_bound, fn_is_bound⟩ := c.t.d.def_ 28 (d := dd_is_bound) rfl
  obtain ⟨fd_Web_need_tie, fn_Web_need_tie⟩ := c.t.d.def_ 29 (d := dd_Web_need_tie) rfl
  obtain ⟨fd_Web_with_tie, fn_Web_with_tie⟩ := c.t.d.def_ 30 (d := dd_Web_with_tie) rfl
  obtain ⟨fd__law_web, fn__law_web⟩ := c.t.d.def_ 31 (d := dd__law_web) rfl
  obtain ⟨fd__law_web_deeds, fn__law_web_deeds⟩ := c.t.d.def_ 32 (d := dd__law_web_deeds) rfl
  obtain ⟨fd_Web_with_by, fn_Web_with_by⟩ := c.t.d.def_ 33 (d := dd_Web_with_by) rfl
  obtain ⟨fd_Web_without, fn_Web_without⟩ := c.t.d.def_ 34 (d := dd_Web_without) rfl
  obtain ⟨fd_Web_without_tie, fn_Web_without_tie⟩ := c.t.d.def_ 35 (d := dd_Web_without_tie) rfl
  obtain ⟨fd_applied, fn_applied⟩ := c.t.d.def_ 36 (d := dd_applied) rfl
  obtain ⟨fd_name_of, fn_name_of⟩ := c.t.d.def_ 37 (d := dd_name_of) rfl
  obtain ⟨fd_number_of, fn_number_of⟩ := c.t.d.def_ 38 (d := dd_number_of) rfl
  obtain ⟨fd_thing_of, fn_thing_of⟩ := c.t.d.def_ 39 (d := dd_thing_of) rfl
  obtain ⟨fd_read_deed, fn_read_deed⟩ := c.t.d.def_ 40 (d := dd_read_deed) rfl
  obtain ⟨fd_read_web, fn_read_web⟩ := c.t.d.def_ 41 (d := dd_read_web) rfl
  obtain ⟨fd_shown, fn_shown⟩ := c.t.d.def_ 42 (d := dd_shown) rfl
  obtain ⟨fd_write_deed, fn_write_deed⟩ := c.t.d.def_ 43 (d := dd_write_deed) rfl
  obtain ⟨fd_write_web, fn_write_web⟩ := c.t.d.def_ 44 (d := dd_write_web) rfl
  obtain ⟨fd_law, fn_law⟩ := c.t.d.def_ 45 (d := dd_law) rfl
  have b_is_within_3_ : BOk K fd_is_within ["thing", "low", "high"] 3 [] [.arg 0, .arg 1, .arg 2] := bt_is_within_3_ fn_is_within
  have b__law_draw_2_ : BOk K fd__law_draw ["_law_flow_here", "_law_size"] 2 [] [.arg 0, .arg 1] := bt__law_draw_2_ fn__law_draw
  have b__law_pick_2_ : BOk K fd__law_pick ["_law_flow_here", "_law_row"] 2 [] [.arg 0, .arg 1] := bt__law_pick_2_ fn__law_pick
  have b__law_bond_3_ : BOk K fd__law_bond ["_law_flow_here", "_law_points_here", "_law_far"] 3 [] [.arg 0, .arg 1, .arg 2] := bt__law_bond_3_ fn__law_bond
  have b__law_points_1_ : BOk K fd__law_points ["_law_m"] 1 [] [.arg 0] := bt__law_points_1_ fn__law_points
  have b__law_wind_4_ : BOk K fd__law_wind ["_law_flow_here", "_law_end", "_law_own", "_law_far"] 4 [] [.arg 0, .arg 1, .arg 2, .arg 3] := bt__law_wind_4_ fn__law_wind
  have b__law_names_2_ : BOk K fd__law_names ["_law_flow_here", "_law_many"] 2 [] [.arg 0, .arg 1] := bt__law_names_2_ fn__law_names
  have b__law_model_1_ : BOk K fd__law_model ["_law_last"] 1 [] [.arg 0] := bt__law_model_1_ fn__law_model
  have b__law_same_2_ : BOk K fd__law_same ["_law_found", "_law_due"] 2 [] [.arg 0, .arg 1] := bt__law_same_2_ fn__law_same
  have b_Web___repr___1_ : BOk K fd_Web___repr__ ["self"] 1 [] [.arg 0] := bt_Web___repr___1_ fn_Web___repr__
  have b_Web_ties_1_ : BOk K fd_Web_ties ["self"] 1 [] [.arg 0] := bt_Web_ties_1_ fn_Web_ties
  have b_Web_points_1_ : BOk K fd_Web_points ["self"] 1 [] [.arg 0] := bt_Web_points_1_ fn_Web_points
  have b_Web___len___1_ : BOk K fd_Web___len__ ["self"] 1 [] [.arg 0] := bt_Web___len___1_ fn_Web___len__
  have b_Web_moments_1_ : BOk K fd_Web_moments ["self"] 1 [] [.arg 0] := bt_Web_moments_1_ fn_Web_moments
  have b_Web_spans_1_ : BOk K fd_Web_spans ["self"] 1 [] [.arg 0] := bt_Web_spans_1_ fn_Web_spans
  have b_is_name_1_ : BOk K fd_is_name ["thing"] 1 [] [.arg 0] := bt_is_name_1_ fn_is_name
  have b_Web___init___2_ : BOk K fd_Web___init__ ["self", "by"] 2 [] [.arg 0, .arg 1] := bt_Web___init___2_ fn_Web___init__
  have b_Web_turned_1_own : BOk K fd_Web_turned ["self", "by", "own", "winds", "bonds"] 1 ["own"] [.arg 0, .dfl (.non), .arg 1, .dfl (.non), .dfl (.non)] := bt_Web_turned_1_own fn_Web_turned
  have b_Web_need_new_2_ : BOk K fd_Web_need_new ["self", "name"] 2 [] [.arg 0, .arg 1] := bt_Web_need_new_2_ fn_Web_need_new
  have b_Web_turned_1_winds : BOk K fd_Web_turned ["self", "by", "own", "winds", "bonds"] 1 ["winds"] [.arg 0, .dfl (.non), .dfl (.non), .arg 1, .dfl (.non)] := bt_Web_turned_1_winds fn_Web_turned
  have b_need_late_1_ : BOk K fd_need_late ["late"] 1 [] [.arg 0] := bt_need_late_1_ fn_need_late
  have b_need_lengths_2_ : BOk K fd_need_lengths ["low", "high"] 2 [] [.arg 0, .arg 1] := bt_need_lengths_2_ fn_need_lengths
  have b_is_bound_1_ : BOk K fd_is_bound ["thing"] 1 [] [.arg 0] := bt_is_bound_1_ fn_is_bound
  have b_Web_turned_1_bonds : BOk K fd_Web_turned ["self", "by", "own", "winds", "bonds"] 1 ["bonds"] [.arg 0, .dfl (.non), .dfl (.non), .dfl (.non), .arg 1] := bt_Web_turned_1_bonds fn_Web_turned
  have b_Web_need_tie_5_ : BOk K fd_Web_need_tie ["self", "one", "other", "least", "most"] 5 [] [.arg 0, .arg 1, .arg 2, .arg 3, .arg 4] := bt_Web_need_tie_5_ fn_Web_need_tie
  have b_Web_with_tie_3_least_most : BOk K fd_Web_with_tie ["self", "one", "other", "least", "most"] 3 ["least", "most"] [.arg 0, .arg 1, .arg 2, .arg 3, .arg 4] := bt_Web_with_tie_3_least_most fn_Web_with_tie
  have b_Web_with_span_5_late : BOk K fd_Web_with_span ["self", "end", "begin", "low", "high", "late"] 5 ["late"] [.arg 0, .arg 1, .arg 2, .arg 3, .arg 4, .arg 5] := bt_Web_with_span_5_late fn_Web_with_span
  have b_Web_with_moment_2_ : BOk K fd_Web_with_moment ["self", "name"] 2 [] [.arg 0, .arg 1] := bt_Web_with_moment_2_ fn_Web_with_moment
  have b_Web_turned_1_by : BOk K fd_Web_turned ["self", "by", "own", "winds", "bonds"] 1 ["by"] [.arg 0, .arg 1, .dfl (.non), .dfl (.non), .dfl (.non)] := bt_Web_turned_1_by fn_Web_turned
  have b_Web_turned_1_own_winds : BOk K fd_Web_turned ["self", "by", "own", "winds", "bonds"] 1 ["own", "winds"] [.arg 0, .dfl (.non), .arg 1, .arg 2, .dfl (.non)] := bt_Web_turned_1_own_winds fn_Web_turned
  have b_Web_without_2_ : BOk K fd_Web_without ["self", "name"] 2 [] [.arg 0, .arg 1] := bt_Web_without_2_ fn_Web_without
  have b_Web_without_tie_2_ : BOk K fd_Web_without_tie ["self", "at"] 2 [] [.arg 0, .arg 1] := bt_Web_without_tie_2_ fn_Web_without_tie
  have b_Web_with_by_2_ : BOk K fd_Web_with_by ["self", "by"] 2 [] [.arg 0, .arg 1] := bt_Web_with_by_2_ fn_Web_with_by
  have b_number_of_1_ : BOk K fd_number_of ["word"] 1 [] [.arg 0] := bt_number_of_1_ fn_number_of
  have b_name_of_1_ : BOk K fd_name_of ["word"] 1 [] [.arg 0] := bt_name_of_1_ fn_name_of
  have b_thing_of_2_ : BOk K fd_thing_of ["form", "word"] 2 [] [.arg 0, .arg 1] := bt_thing_of_2_ fn_thing_of
  have b_applied_2_ : BOk K fd_applied ["web", "deed"] 2 [] [.arg 0, .arg 1] := bt_applied_2_ fn_applied
  have b_read_deed_1_ : BOk K fd_read_deed ["line"] 1 [] [.arg 0] := bt_read_deed_1_ fn_read_deed
  have b_Web___init___1_ : BOk K fd_Web___init__ ["self", "by"] 1 [] [.arg 0, .dfl (.int 100)] := bt_Web___init___1_ fn_Web___init__
  have b_shown_1_ : BOk K fd_shown ["thing"] 1 [] [.arg 0] := bt_shown_1_ fn_shown
  have b_write_deed_1_ : BOk K fd_write_deed ["deed"] 1 [] [.arg 0] := bt_write_deed_1_ fn_write_deed
  have b_Web___eq___2_ : BOk K fd_Web___eq__ ["self", "other"] 2 [] [.arg 0, .arg 1] := bt_Web___eq___2_ fn_Web___eq__
  have b_read_web_1_ : BOk K fd_read_web ["text"] 1 [] [.arg 0] := bt_read_web_1_ fn_read_web
  have b_write_web_1_ : BOk K fd_write_web ["web"] 1 [] [.arg 0] := bt_write_web_1_ fn_write_web
  have b_Web___init___1_by : BOk K fd_Web___init__ ["self", "by"] 1 ["by"] [.arg 0, .arg 1] := bt_Web___init___1_by fn_Web___init__
  have b__law_stands_2_ : BOk K fd__law_stands ["_law_web_here", "_law_m"] 2 [] [.arg 0, .arg 1] := bt__law_stands_2_ fn__law_stands
  have b__law_web_deeds_1_ : BOk K fd__law_web_deeds ["_law_m"] 1 [] [.arg 0] := bt__law_web_deeds_1_ fn__law_web_deeds
  have b__law_deed_line_1_ : BOk K fd__law_deed_line ["_law_deed"] 1 [] [.arg 0] := bt__law_deed_line_1_ fn__law_deed_line
  have b__law_web_1_ : BOk K fd__law_web ["_law_m"] 1 [] [.arg 0] := bt__law_web_1_ fn__law_web
  have b__law_drawn_6_ : BOk K fd__law_drawn ["_law_flow_here", "_law_own", "_law_winds", "_law_bonds", "_law_far", "_law_last"] 6 [] [.arg 0, .arg 1, .arg 2, .arg 3, .arg 4, .arg 5] := bt__law_drawn_6_ fn__law_drawn
  have b__law_flow_1_ : BOk K fd__law_flow ["_law_script"] 1 [] [.arg 0] := bt__law_flow_1_ fn__law_flow
  have e := hfa.symm.trans (He.glo_ok X G (c.t.d.fact 77 (f := .glo "law") rfl))
  cases e
  refine ⟨fd_law, fun s v => FunD.bindsA (ps := ["_law_script"]) fn_law (fun _ _ _ _ _ _ us hl => match us, hl with | [_], _ => rfl) s [v] rfl, fun base _ _ => ?_⟩
  have k_FORMS : ∃ es n, L2.KDict K w (He.ga K "FORMS") es n := c.t.tab 0
  have d_Web___eq__ := t_Web___eq__ (P := P) (w := w) (base := base) fc h_tab_Web fn_Web___eq__
  have d_is_within := t_is_within (P := P) (w := w) (base := base) fc h_tab_bool h_tab_int fn_is_within
  have d_Web___init__ := t_Web___init__ (P := P) (w := w) (base := base) fc fn_Web___init__ d_is_within fn_is_within.kp b_is_within_3_
  have d__law_deed_line := t__law_deed_line (P := P) (w := w) (base := base) fc fn__law_deed_line
  have d__law_draw := t__law_draw (P := P) (w := w) (base := base) fc fn__law_draw
  have d__law_pick := t__law_pick (P := P) (w := w) (base := base) fc fn__law_pick d__law_draw fn__law_draw.kp b__law_draw_2_
  have d__law_bond := t__law_bond (P := P) (w := w) (base := base) fc fn__law_bond d__law_draw fn__law_draw.kp d__law_pick fn__law_pick.kp b__law_draw_2_ b__law_pick_2_
  have d__law_model := t__law_model (P := P) (w := w) (base := base) fc fn__law_model
  have d__law_names := t__law_names (P := P) (w := w) (base := base) fc fn__law_names d__law_draw fn__law_draw.kp b__law_draw_2_
  have d__law_points := t__law_points (P := P) (w := w) (base := base) fc fn__law_points
  have d__law_wind := t__law_wind (P := P) (w := w) (base := base) fc fn__law_wind d__law_pick fn__law_pick.kp d__law_draw fn__law_draw.kp b__law_pick_2_ b__law_draw_2_
  have d__law_drawn := t__law_drawn (P := P) (w := w) (base := base) fc fn__law_drawn d__law_bond fn__law_bond.kp d__law_points fn__law_points.kp d__law_wind fn__law_wind.kp d__law_names fn__law_names.kp d__law_model fn__law_model.kp b__law_bond_3_ b__law_points_1_ b__law_wind_4_ b__law_names_2_ b__law_model_1_
  have d__law_flow := t__law_flow (P := P) (w := w) (base := base) fc fn__law_flow
  have d__law_same : FnOk P w K mg base (L2.CX P w) 9 (He.ga K "_law_same") fd__law_same ["_law_found", "_law_due"] (spD K [false, false] F__law_same) := t__law_same (lv := 0) fc h_tab_list h_tab_tuple h_tab_dict h_tab_str h_tab_int h_tab_bool fn__law_same fn__law_same.kp b__law_same_2_ 8
  have d_Web___len__ := t_Web___len__ (P := P) (w := w) (base := base) fc fn_Web___len__
  have d_Web___repr__ := t_Web___repr__ (P := P) (w := w) (base := base) fc fn_Web___repr__
  have d_Web_moments := t_Web_moments (P := P) (w := w) (base := base) fc fn_Web_moments
  have d_Web_points := t_Web_points (P := P) (w := w) (base := base) fc fn_Web_points
  have d_Web_spans := t_Web_spans (P := P) (w := w) (base := base) fc fn_Web_spans
  have d_Web_ties := t_Web_ties (P := P) (w := w) (base := base) fc fn_Web_ties
  have d__law_stands := t__law_stands (P := P) (w := w) (base := base) fc fn__law_stands d__law_same fn__law_same.kp d_Web___repr__ d_Web_ties d_Web_points d_Web___len__ d_Web_moments d_Web_spans d__law_points fn__law_points.kp b__law_same_2_ b_Web___repr___1_ b_Web_ties_1_ b_Web_points_1_ b_Web___len___1_ b_Web_moments_1_ b_Web_spans_1_ b__law_points_1_
  have d_is_name := t_is_name (P := P) (w := w) (base := base) fc h_tab_str fn_is_name
  have d_Web_need_new := t_Web_need_new (P := P) (w := w) (base := base) fc fn_Web_need_new d_Web_points d_is_name fn_is_name.kp b_Web_points_1_ b_is_name_1_
  have d_Web_turned := t_Web_turned (P := P) (w := w) (base := base) fc fn_Web_turned d_Web___init__ b_Web___init___2_
  have d_Web_with_moment := t_Web_with_moment (P := P) (w := w) (base := base) fc fn_Web_with_moment d_Web_turned d_Web_need_new b_Web_turned_1_own b_Web_need_new_2_
  have d_need_late := t_need_late (P := P) (w := w) (base := base) fc fn_need_late d_is_within fn_is_within.kp b_is_within_3_
  have d_need_lengths := t_need_lengths (P := P) (w := w) (base := base) fc fn_need_lengths d_is_within fn_is_within.kp b_is_within_3_
  have d_Web_with_span := t_Web_with_span (P := P) (w := w) (base := base) fc fn_Web_with_span d_Web_turned d_need_late fn_need_late.kp d_need_lengths fn_need_lengths.kp d_Web_need_new b_Web_turned_1_winds b_need_late_1_ b_need_lengths_2_ b_Web_need_new_2_
  have d_is_bound := t_is_bound (P := P) (w := w) (base := base) fc fn_is_bound d_is_within fn_is_within.kp b_is_within_3_
  have d_Web_need_tie := t_Web_need_tie (P := P) (w := w) (base := base) fc fn_Web_need_tie d_is_bound fn_is_bound.kp d_Web_points b_is_bound_1_ b_Web_points_1_
  have d_Web_with_tie := t_Web_with_tie (P := P) (w := w) (base := base) fc fn_Web_with_tie d_Web_turned d_Web_need_tie b_Web_turned_1_bonds b_Web_need_tie_5_
  have d__law_web := t__law_web (P := P) (w := w) (base := base) fc fn__law_web d_Web_with_tie d_Web_with_span d_Web_with_moment d_Web___init__ b_Web_with_tie_3_least_most b_Web_with_span_5_late b_Web_with_moment_2_ b_Web___init___2_
  have d__law_web_deeds := t__law_web_deeds (P := P) (w := w) (base := base) fc fn__law_web_deeds
  have d_Web_with_by := t_Web_with_by (P := P) (w := w) (base := base) fc fn_Web_with_by d_Web_turned d_is_within fn_is_within.kp b_Web_turned_1_by b_is_within_3_
  have d_Web_without := t_Web_without (P := P) (w := w) (base := base) fc fn_Web_without d_Web_turned d_Web_points b_Web_turned_1_own_winds b_Web_points_1_
  have d_Web_without_tie := t_Web_without_tie (P := P) (w := w) (base := base) fc fn_Web_without_tie d_Web_turned d_is_within fn_is_within.kp b_Web_turned_1_bonds b_is_within_3_
  have d_applied := t_applied (P := P) (w := w) (base := base) fc fn_applied d_Web_without d_Web_without_tie d_Web_with_tie d_Web_with_span d_Web_with_moment d_Web_with_by b_Web_without_2_ b_Web_without_tie_2_ b_Web_with_tie_3_least_most b_Web_with_span_5_late b_Web_with_moment_2_ b_Web_with_by_2_
  have d_name_of := t_name_of (P := P) (w := w) (base := base) fc fn_name_of d_is_name fn_is_name.kp b_is_name_1_
  have d_number_of := t_number_of (P := P) (w := w) (base := base) fc fn_number_of
  have d_thing_of := t_thing_of (P := P) (w := w) (base := base) fc fn_thing_of d_number_of fn_number_of.kp d_name_of fn_name_of.kp b_number_of_1_ b_name_of_1_
  have d_read_deed := t_read_deed (P := P) (w := w) (base := base) fc k_FORMS sv_FORMS fn_read_deed d_thing_of fn_thing_of.kp b_thing_of_2_
  have d_read_web := t_read_web (P := P) (w := w) (base := base) fc fn_read_web d_applied fn_applied.kp d_read_deed fn_read_deed.kp d_Web___init__ b_applied_2_ b_read_deed_1_ b_Web___init___1_
  have d_shown := t_shown (P := P) (w := w) (base := base) fc fn_shown
  have d_write_deed := t_write_deed (P := P) (w := w) (base := base) fc fn_write_deed d_shown fn_shown.kp b_shown_1_
  have d_write_web := t_write_web (P := P) (w := w) (base := base) fc fn_write_web d_write_deed fn_write_deed.kp d_Web_spans d_Web_ties d_Web_moments b_write_deed_1_ b_Web_spans_1_ b_Web_ties_1_ b_Web_moments_1_
  exact t_law fc fn_law d_Web___eq__ d_read_web fn_read_web.kp d_Web___init__ d_write_web fn_write_web.kp d__law_stands fn__law_stands.kp d__law_same fn__law_same.kp d__law_web_deeds fn__law_web_deeds.kp d__law_deed_line fn__law_deed_line.kp d__law_web fn__law_web.kp d__law_drawn fn__law_drawn.kp d__law_draw fn__law_draw.kp d__law_pick fn__law_pick.kp d__law_flow fn__law_flow.kp b_Web___eq___2_ b_read_web_1_ b_Web___init___2_ b_write_web_1_ b_Web___init___1_by b__law_stands_2_ b__law_same_2_ b__law_web_deeds_1_ b__law_deed_line_1_ b__law_web_1_ b__law_drawn_6_ b__law_draw_2_ b__law_pick_2_ b__law_flow_1_
end My
open PySem PySem.W PySem.Calls PyProof.Rows
theorem PySem.Challenge.cw_tidewaiter_k56_webs_written_and_read_holds : PySem.Challenge.rw_tidewaiter_k56_webs_written_and_read.Holds := by
  w_on; o_law
  refine HandSHeadRun.head_any (r := OpenLaw.row PySem.Challenge.rw_tidewaiter_k56_webs_written_and_read) (q := view (OpenLaw.row PySem.Challenge.rw_tidewaiter_k56_webs_written_and_read).prog [59]) (H := My.hkY) (ob := My.ob) (M := 20000) (loose := My.loose) (d := HandSHeadRun.topDef (OpenLaw.row PySem.Challenge.rw_tidewaiter_k56_webs_written_and_read).prog 59) (kwd := []) My.ob_eq
    (by kernel_rfl) (fun s => by kernel_rfl) My.run (by kernel_rfl) (by kernel_rfl) (by kernel_rfl) (by rfl) (by first | assumption | decide +kernel) (by decide +kernel) ⟨rfl, rfl, rfl, rfl, rfl, by decide +kernel⟩ ?hw ?hc
  case hw => w_witness2
  case hc =>
    refine L2.walk_ofE (l := PySem.Challenge.rw_tidewaiter_k56_webs_written_and_read) (n := 63) (k := 11) (x := "_law_script") (CX := DL.CXw (PySem.Challenge.rw_tidewaiter_k56_webs_written_and_read).prog) rfl (by decide) (by kernel_rfl) ⟨rfl, by decide, by decide⟩ ?F (fun _ _ _ _ z => DL.cxw_false z)
    intro w mg fa h Y G hmg0
    obtain ⟨K, KX, c⟩ := Y
    have hmg : mg ("law" : PySem.Str) = some (.ref fa) := by
      have e : (HandSHeadRun.topDef (OpenLaw.row PySem.Challenge.rw_tidewaiter_k56_webs_written_and_read).prog 59).name = ("law" : PySem.Str) := by kernel_rfl
      rw [← e]
      exact hmg0
    obtain ⟨fd, hb, hF⟩ := My.facts (P := (PySem.Challenge.rw_tidewaiter_k56_webs_written_and_read).prog) (w := w) KX G hmg c
    exact ⟨K, fd, DL.spD K [false] My.F_law, KX, hb, fun H a ns _ hO hS => DL.spD_law hO hS (My.law_ok ns), fun base h1 h2 => DL.fnOk_w (hF base h1 h2)⟩
