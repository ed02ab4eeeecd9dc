import PyProof.Rows.All
import Wide.All
import OpenK.AllK
import Wide.FinOn
import KE.KStateDown
import HandS.ForMost
import HandS.Exc
import HandS.HeadHook1
import HandS.HeadHook4
import HandS.Lambda
import HandS.Wide
import HandS.IsInst
import HandS.TupLen
import HandS.Codes
import HandS.TupAny
import HandS.NoneIn
import HandS.WordsExc
import HandS.Defaults
import HandS.ExcOwn
import PyProof.DictUpdate
import HandS.Finally
import HandS.Small
import HandS.Iter
import HandS.WordsDict
import HandS.Conv
import HandS.RaiseMore
import HandS.More
import HandS.Style
import HandS.FStr
import OpenK.KOps
import HandS.OwnEq
import PyProof.CollectIter
import HandS.MakeKwOnly
import PyProof.Conv_bool
import PyProof.ListTruth
import PyProof.Rows.Range3
import HandS.HeadEnd
import HandS.Head2
import HandS.HeadHook2
import HandS.ExcInit
import HandS.ExcField
import HandS.TryOnly
import HandS.TryMany
import KE.KExcInit
import KE.KExcIs
import KE.KTryMore
import HandS.ExcIs
import HandS.EndTab
import HandS.DictComp
import HandS.HeadHook3
import HandS.Deep
import HandS.List
import HandS.TupMul
import PyProof.InstEq
import HandS.MakeKw
import HandS.SortInts
import HandS.RevRange
import HandS.Text
import KE.GoesEnumKw
import KE.GoesMore
import KE.KUnpackStar
import HandS.SortKw
import PyProof.MinMaxWalk
import PyProof.SumWalkG
import PyProof.WalkInts
import PyProof.ReprRoads
import HandS.Flow
import KE.GoesComp
import PySem.Challenge.RW_tidewaiter_k50_readings_told
set_option Elab.async false
set_option linter.all false
set_option maxRecDepth 100000
set_option maxHeartbeats 4000000
namespace DL
open PySem PySem.Spec L2
section
variable {X : Cx} {K : PySem.W.Frag}
inductive TyK where
  | bi (n : String) | own (c : Str)
  deriving DecidableEq
def TyK.val (K : PySem.W.Frag) : TyK → Value
  | .bi n => .type n
  | .own c => .ref (He.ga K c)
def insB (K : PySem.W.Frag) (c : Str) : Bool := (He.Fa.cls c).ok K && (decide (PySem.W.findIn K (.ref (He.ga K c)) "__class__" = some (some (.builtin "object.__class__"))) && (decide (PySem.W.specialIn K (.builtin "object.__class__") "__get__" = some (some (.builtin "getset_descriptor.__get__"))) &&
  (decide (PySem.W.takesIn K (.builtin "object.__class__") = some true) && decide (PySem.W.mroIn K (He.ga K c) (.type "object") = some true))))
def isiB (K : PySem.W.Frag) (u : Value) (tab : List (TyK × Bool)) : Bool := tab.all fun p => decide (PySem.W.kitOne K (p.1.val K) u = some p.2) && (match p.1 with
  | .own c => insB K c
  | _ => true)
end
end DL
namespace DL
open PySem PySem.W PySem.Calls PyProof.Rows HandSHeadRun
def RunA (r : OpenRow) (q : Program) (M : Nat) (loose : List PySem.Str) (w : World) : Prop :=
  ∀ os : OsState, (HandSHeadRun.endF (stepQ (denQ tabQ) r.prog w) M r.prog w os).map (fun s => (looksF r.prog (boot_heap w.params) s.abs, seenQ q loose (importedModules r.prog.main.body) (fun s => xlAt q [] s && recOk r.toRowW.records s) s.abs)) = some (true, openGood q loose)
def RunB (r : OpenRow) (H : Hook) (ob : SharedT → H.α) (M : Nat) (w : World) : Prop :=
  ∀ os : OsState, (HandSHeadRun.endF (stepQ (denQ tabQ) r.prog w) M r.prog w os).map ob = some (H.val w)
end DL
namespace DL
open PySem PySem.Spec PyProof.Rows L2
def kvE (e : DictEntry) : Option (Str × Int) := match e.key, e.val with
  | .str k _, .int i _ => some (k, i)
  | _, _ => none
def tabV (K : PySem.W.Frag) (x : Str) (kvs : List (Str × Int)) : Bool := match K.lookup (He.ga K x) with
  | some ⟨_, _, .dict es _, _⟩ => decide (es.toList.map kvE = kvs.map some)
  | _ => false
end DL
namespace DL
open PySem PySem.Spec PyProof.Rows
def freshY : List Addr → Nat → List Addr → (List Addr → Nat → List Addr) → List Addr
  | [], s, acc, k => k acc s
  | a :: r, s, acc, k => HandSHeadRun.frNat a fun a => match s.testBit a with
    | true => freshY r s acc k
    | false => HandSHeadRun.frNat (s ||| (1 <<< a)) fun s' => freshY r s' (a :: acc) k
def nextY (g : Addr → Option Obj) : List Addr → List Addr
  | [] => []
  | a :: r => (match g a with
    | some o => He.refsD o
    | none => []) ++ nextY g r
def lvY (g : Addr → Option Obj) : Nat → List Addr → Nat → List Addr → List Addr
  | 0, _, _, all => all
  | n + 1, fr, s, all => freshY (nextY g fr) s [] fun nw s' => lvY g n nw s' (nw ++ all)
def asY (names : List Str) (n : Nat) (g : Addr → Option Obj) : List Addr :=
  freshY (match g mainGlobals with
    | some ⟨_, _, .dict es _, _⟩ => (es.toList.filter fun e => names.any fun x => e.key.isStr x).flatMap fun e => He.refV e.val
    | _ => []) (1 <<< mainGlobals) [] fun nw s' => lvY g n nw s' (mainGlobals :: nw)
section
variable (as : (Addr → Option Obj) → List Addr) (fa : List He.Fa) (fn : List He.DefD) (ts : List He.Tab) (tf : List He.Defn) (ex : PySem.W.Frag → Bool)
def onK (K : PySem.W.Frag) (g : Addr → Option Obj) : He.AlX := (He.obsT fa fn ts K, ex K && He.tabsB g tf K)
def obsY (g : Addr → Option Obj) : He.AlX := onK fa fn ts tf ex (He.frT g (as g)) g
theorem saysY {w : World} {h : Heap} {K : PySem.W.Frag} (hK : ∀ a o, h.get? a = some o → He.emptyTab o = true → K.lookup a = none) (e : onK fa fn ts tf ex K h.get? = He.valX fn ts w) : He.SaysX fa fn ts tf ex w h K := by
  unfold onK He.valX at e
  rw [Prod.mk.injEq, Bool.and_eq_true] at e
  obtain ⟨e1, e2, e3⟩ := e
  have one : ∀ p ∈ tf, PySem.W.codeHdIn K (He.cT K p).1 (He.cT K p).2 = true ∧ ∃ o, h.get? (He.cT K p).2 = some o ∧ He.emptyTab o = true := by
    intro p hp
    have z := List.all_eq_true.mp e3 p hp
    rw [Bool.and_eq_true] at z
    refine ⟨z.1, ?_⟩
    have z2 := z.2
    split at z2
    · rename_i o q
      exact ⟨o, q, z2⟩
    · cases z2
  constructor
  · exact e1
  · exact e2
  · exact fun p hp => (one p hp).1
  · intro p hp
    obtain ⟨o, q1, q2⟩ := (one p hp).2
    exact hK _ o q1 q2
  · intro p hp
    obtain ⟨o, q1, q2⟩ := (one p hp).2
    rw [q1]
    exact congrArg some (He.emptyTab_eq q2)
def hookY : PySem.W.Hook where
  α := He.AlX
  obs s := obsY as fa fn ts tf ex s.heap.get?
  val w := He.valX fn ts w
  says w h := ∃ K : PySem.W.Frag, K.In h ∧ He.SaysX fa fn ts tf ex w h K
  of _ _ e := ⟨_, He.frT_in, saysY fa fn ts tf ex (fun _ _ => He.frT_none) e⟩
  keeps _ _ _ q k := by
    obtain ⟨K, hK, c⟩ := q
    refine ⟨K, hK.keeps k, ?_⟩
    obtain ⟨c1, c2, c3, c4, c5⟩ := c
    exact { t := c1, more := c2, hd := c3, out := c4, empty := fun p hp => k _ _ (c5 p hp) }
end
end DL
namespace My
open PySem PySem.Spec L2 DL
def topS (i : Nat) : Stmt := PySem.Challenge.pw_tidewaiter_k50_readings_told.main.body.getD i (.Pass ⟨0, 0, 0, 0⟩)
abbrev fa : List He.Fa := [.free "list", .free "isinstance", .free "bool", .free "int", .glo "_law_whole", .glo "_law_good_form", .free "all", .free "len", .glo "_law_good_leaf", .free "tuple", .glo "_law_leaf_count", .free "sum", .glo "_law_kids", .glo "_law_plan_depth", .free "max", .glo "_law_reading_count", .free "abs", .glo "_law_draw", .free "range", .glo "_law_plan", .glo "_law_leaf", .glo "_law_plan_copy", .glo "_law_same", .free "dict", .free "str", .glo "_law_ways", .glo "_law_wreck", .glo "anew", .glo "parts_of", .glo "choices", .int "MOST_WAIT" 1000, .glo "is_within", .glo "is_formed", .int "MOST_WIDE" 4, .glo "is_leaf", .glo "SIZES", .glo "leaves", .int "MOST_READINGS" 64, .int "MOST_LEAVES" 12, .int "MOST_DEEP" 6, .glo "ways", .glo "need_plan", .glo "readings", .glo "_law_good_plan", .glo "_law_flow"]
abbrev gt_SIZES : List (Str × Int) := [("ours", 3), ("weather", 4), ("then", 2), ("beside", 2), ("either", 2), ("within", 3)]
def tab_bool : List (TyK × Bool) := [(.bi "NoneType", false), (.bi "bool", true), (.bi "int", false), (.bi "str", false), (.bi "list", false), (.bi "tuple", false), (.bi "dict", false)]
def tab_int : List (TyK × Bool) := [(.bi "NoneType", false), (.bi "bool", true), (.bi "int", true), (.bi "str", false), (.bi "list", false), (.bi "tuple", false), (.bi "dict", false)]
def tab_list : List (TyK × Bool) := [(.bi "NoneType", false), (.bi "bool", false), (.bi "int", false), (.bi "str", false), (.bi "list", true), (.bi "tuple", false), (.bi "dict", false)]
def tab_tuple : List (TyK × Bool) := [(.bi "NoneType", false), (.bi "bool", false), (.bi "int", false), (.bi "str", false), (.bi "list", false), (.bi "tuple", true), (.bi "dict", false)]
def tab_dict : List (TyK × Bool) := [(.bi "NoneType", false), (.bi "bool", false), (.bi "int", false), (.bi "str", false), (.bi "list", false), (.bi "tuple", false), (.bi "dict", true)]
def tab_str : List (TyK × Bool) := [(.bi "NoneType", false), (.bi "bool", false), (.bi "int", false), (.bi "str", true), (.bi "list", false), (.bi "tuple", false), (.bi "dict", false)]
end My
namespace My
open PySem PySem.Spec L2 DL
def dd__law_flow : He.DefD := ⟨("_law_flow", none), "_law_flow", "_law_flow", defArgs (topS 22), defBody (topS 22), defScope (topS 22), [], []⟩
def dd__law_whole : He.DefD := ⟨("_law_whole", none), "_law_whole", "_law_whole", defArgs (topS 25), defBody (topS 25), defScope (topS 25), [], []⟩
def dd__law_good_leaf : He.DefD := ⟨("_law_good_leaf", none), "_law_good_leaf", "_law_good_leaf", defArgs (topS 32), defBody (topS 32), defScope (topS 32), [], []⟩
def dd__law_good_form : He.DefD := ⟨("_law_good_form", none), "_law_good_form", "_law_good_form", defArgs (topS 33), defBody (topS 33), defScope (topS 33), [], []⟩
def dd__law_kids : He.DefD := ⟨("_law_kids", none), "_law_kids", "_law_kids", defArgs (topS 28), defBody (topS 28), defScope (topS 28), [], []⟩
def dd__law_leaf_count : He.DefD := ⟨("_law_leaf_count", none), "_law_leaf_count", "_law_leaf_count", defArgs (topS 29), defBody (topS 29), defScope (topS 29), [], []⟩
def dd__law_plan_depth : He.DefD := ⟨("_law_plan_depth", none), "_law_plan_depth", "_law_plan_depth", defArgs (topS 30), defBody (topS 30), defScope (topS 30), [], []⟩
def dd__law_reading_count : He.DefD := ⟨("_law_reading_count", none), "_law_reading_count", "_law_reading_count", defArgs (topS 31), defBody (topS 31), defScope (topS 31), [], []⟩
def dd__law_good_plan : He.DefD := ⟨("_law_good_plan", none), "_law_good_plan", "_law_good_plan", defArgs (topS 34), defBody (topS 34), defScope (topS 34), [], []⟩
def dd__law_draw : He.DefD := ⟨("_law_draw", none), "_law_draw", "_law_draw", defArgs (topS 23), defBody (topS 23), defScope (topS 23), [], []⟩
def dd__law_leaf : He.DefD := ⟨("_law_leaf", none), "_law_leaf", "_law_leaf", defArgs (topS 26), defBody (topS 26), defScope (topS 26), [], []⟩
def dd__law_plan : He.DefD := ⟨("_law_plan", none), "_law_plan", "_law_plan", defArgs (topS 27), defBody (topS 27), defScope (topS 27), [], []⟩
def dd__law_plan_copy : He.DefD := ⟨("_law_plan_copy", none), "_law_plan_copy", "_law_plan_copy", defArgs (topS 36), defBody (topS 36), defScope (topS 36), [], []⟩
def dd__law_same : He.DefD := ⟨("_law_same", none), "_law_same", "_law_same", defArgs (topS 24), defBody (topS 24), defScope (topS 24), [], []⟩
def dd__law_ways : He.DefD := ⟨("_law_ways", none), "_law_ways", "_law_ways", defArgs (topS 35), defBody (topS 35), defScope (topS 35), [], []⟩
def dd__law_wreck : He.DefD := ⟨("_law_wreck", none), "_law_wreck", "_law_wreck", defArgs (topS 37), defBody (topS 37), defScope (topS 37), [], []⟩
def dd_anew : He.DefD := ⟨("anew", none), "anew", "anew", defArgs (topS 19), defBody (topS 19), defScope (topS 19), [], []⟩
def dd_parts_of : He.DefD := ⟨("parts_of", none), "parts_of", "parts_of", defArgs (topS 14), defBody (topS 14), defScope (topS 14), [], []⟩
def dd_choices : He.DefD := ⟨("choices", none), "choices", "choices", defArgs (topS 16), defBody (topS 16), defScope (topS 16), [], []⟩
def dd_is_within : He.DefD := ⟨("is_within", none), "is_within", "is_within", defArgs (topS 5), defBody (topS 5), defScope (topS 5), [], []⟩
def dd_is_leaf : He.DefD := ⟨("is_leaf", none), "is_leaf", "is_leaf", defArgs (topS 12), defBody (topS 12), defScope (topS 12), [], []⟩
def dd_is_formed : He.DefD := ⟨("is_formed", none), "is_formed", "is_formed", defArgs (topS 13), defBody (topS 13), defScope (topS 13), [], []⟩
def dd_leaves : He.DefD := ⟨("leaves", none), "leaves", "leaves", defArgs (topS 15), defBody (topS 15), defScope (topS 15), [], []⟩
def dd_need_plan : He.DefD := ⟨("need_plan", none), "need_plan", "need_plan", defArgs (topS 17), defBody (topS 17), defScope (topS 17), [], []⟩
def dd_ways : He.DefD := ⟨("ways", none), "ways", "ways", defArgs (topS 18), defBody (topS 18), defScope (topS 18), [], []⟩
def dd_readings : He.DefD := ⟨("readings", none), "readings", "readings", defArgs (topS 20), defBody (topS 20), defScope (topS 20), [], []⟩
def dd_law : He.DefD := ⟨("law", none), "law", "law", defArgs (topS 38), defBody (topS 38), defScope (topS 38), [], []⟩
def fn : List He.DefD := [dd__law_flow, dd__law_whole, dd__law_good_leaf, dd__law_good_form, dd__law_kids, dd__law_leaf_count, dd__law_plan_depth, dd__law_reading_count, dd__law_good_plan, dd__law_draw, dd__law_leaf, dd__law_plan, dd__law_plan_copy, dd__law_same, dd__law_ways, dd__law_wreck, dd_anew, dd_parts_of, dd_choices, dd_is_within, dd_is_leaf, dd_is_formed, dd_leaves, dd_need_plan, dd_ways, dd_readings, dd_law]
abbrev fa2 : List He.Fa := fa ++ [.glo "law"]
def ex (K : PySem.W.Frag) : Bool := isiB K (.type "bool") tab_bool && isiB K (.type "int") tab_int && isiB K (.type "list") tab_list && isiB K (.type "tuple") tab_tuple && isiB K (.type "dict") tab_dict && isiB K (.type "str") tab_str && tabV K "SIZES" gt_SIZES
abbrev RR : PySem.W.OpenRow := PySem.W.OpenLaw.row PySem.Challenge.rw_tidewaiter_k50_readings_told
def nmsY0 : List Str := ["_law_whole", "_law_good_form", "_law_good_leaf", "_law_leaf_count", "_law_kids", "_law_plan_depth", "_law_reading_count", "_law_draw", "_law_plan", "_law_leaf", "_law_plan_copy", "_law_same", "_law_ways", "_law_wreck", "anew", "parts_of", "choices", "is_within", "is_formed", "is_leaf", "leaves", "ways", "need_plan", "readings", "_law_good_plan", "_law_flow", "law", "SIZES"]
def nmsY : List Str := nmsY0
def asN : (Addr → Option Obj) → List Addr := asY nmsY 3
abbrev hkY : PySem.W.Hook := hookY asN fa2 fn [(fun K => He.ga K "SIZES", ["ours", "weather", "then", "beside", "either", "within"])] [] ex
def ob (s : PySem.W.SharedT) : He.AlX := obsY asN fa2 fn [(fun K => He.ga K "SIZES", ["ours", "weather", "then", "beside", "either", "within"])] [] ex (HandSHeadRun.getT s)
def loose0 : List Str := ["TideError", "BadPlan", "MOST_WAIT", "is_within", "MOST_DEEP", "MOST_WIDE", "MOST_LEAVES", "MOST_READINGS", "SIZES", "is_leaf", "is_formed", "parts_of", "leaves", "choices", "need_plan", "ways", "anew", "readings", "_law_flow", "_law_draw", "_law_same", "_law_whole", "_law_leaf", "_law_plan", "_law_kids", "_law_leaf_count", "_law_plan_depth", "_law_reading_count", "_law_good_leaf", "_law_good_form"]
def loose1 : List Str := ["_law_good_plan", "_law_ways", "_law_plan_copy", "_law_wreck"]
def loose : List Str := loose0 ++ loose1
theorem runA_false (w : World) : RunA RR (PySem.W.view RR.prog [38]) 20000 loose (w.withFollow "special-get-raises" false) := by
  intro os
  kernel_rfl
theorem runA_true (w : World) : RunA RR (PySem.W.view RR.prog [38]) 20000 loose (w.withFollow "special-get-raises" true) := by
  intro os
  kernel_rfl
theorem runB_false (w : World) : RunB RR hkY ob 20000 (w.withFollow "special-get-raises" false) := by
  intro os
  kernel_rfl
theorem runB_true (w : World) : RunB RR hkY ob 20000 (w.withFollow "special-get-raises" true) := by
  intro os
  kernel_rfl
end My
set_option Elab.async false
set_option linter.all false
set_option maxRecDepth 100000
set_option maxHeartbeats 4000000
namespace DL
open PySem PySem.Spec L2
inductive Sh where
  | tup | lst | dic (ks : List Key) | dit (ks : List (List Key)) | ins (c : Str) (fs : List Str) | exd (fs : List Str)
  deriving DecidableEq
inductive D where
  | non | bl (b : Bool) | int (i : Int) | str (x : Str) | ob (a : Addr) | ty (n : String) | scr (ns : List Int) | tscr (ns : List Int) (T : List (He.Defn × Str)) | lam (f c : Addr) (q : Str)
  | node (o : Bool) (s : Sh) (xs : List D)
mutual
def D.frz : D → Bool
  | .node o _ xs => !o && frzL xs
  | .tscr _ _ => false
  | _ => true
def frzL : List D → Bool
  | [] => true
  | d :: ds => d.frz && frzL ds
end
mutual
def D.fz : D → D
  | .node _ s xs => .node false s (fzL xs)
  | .non => .non
  | .bl b => .bl b
  | .int i => .int i
  | .str x => .str x
  | .ob a => .ob a
  | .ty n => .ty n
  | .scr ns => .scr ns
  | .tscr ns _ => .scr ns
  | .lam f c q => .lam f c q
def fzL : List D → List D
  | [] => []
  | d :: ds => d.fz :: fzL ds
end
theorem fzL_map : ∀ ds : List D, fzL ds = ds.map D.fz
  | [] => rfl
  | d :: ds => by rw [fzL, fzL_map ds]; rfl
theorem frzL_all : ∀ ds : List D, frzL ds = ds.all D.frz
  | [] => rfl
  | d :: ds => by rw [frzL, frzL_all ds]; rfl
mutual
theorem fz_frz : ∀ d : D, d.fz.frz = true
  | .node _ s xs => by simp only [D.fz, D.frz]; rw [fzL_frz xs]; rfl
  | .non => rfl
  | .bl _ => rfl
  | .int _ => rfl
  | .str _ => rfl
  | .ob _ => rfl
  | .ty _ => rfl
  | .scr _ => rfl
  | .tscr _ _ => rfl
  | .lam _ _ _ => rfl
theorem fzL_frz : ∀ ds : List D, frzL (fzL ds) = true
  | [] => rfl
  | d :: ds => by simp only [fzL, frzL]; rw [fz_frz d, fzL_frz ds]; rfl
end
mutual
theorem fz_of_frz : ∀ d : D, d.frz = true → d.fz = d
  | .node o s xs, h => by
    simp only [D.frz, Bool.and_eq_true, Bool.not_eq_true'] at h
    simp only [D.fz, h.1, fzL_of_frz xs h.2]
  | .non, _ => rfl
  | .bl _, _ => rfl
  | .int _, _ => rfl
  | .str _, _ => rfl
  | .ob _, _ => rfl
  | .ty _, _ => rfl
  | .scr _, _ => rfl
  | .tscr _ _, h => by simp [D.frz] at h
  | .lam _ _ _, _ => rfl
theorem fzL_of_frz : ∀ ds : List D, frzL ds = true → fzL ds = ds
  | [], _ => rfl
  | d :: ds, h => by
    simp only [frzL, Bool.and_eq_true] at h
    simp only [fzL, fz_of_frz d h.1, fzL_of_frz ds h.2]
end
def isDic : HO → Bool
  | .dK _ => true
  | .dT _ => true
  | _ => false
def Has (H : Hp) (a : Addr) (u : HO) : Prop := H a = some u ∨ ((∃ o, H a = some (.frz o u)) ∧ isDic u = true)
theorem Has.rd {H : Hp} {a : Addr} {u : HO} (h : Has H a u) : Rd H a u := by
  rcases h with h | ⟨h, _⟩
  · exact .inl h
  · exact .inr h
theorem Has.ne {H : Hp} {a : Addr} {u : HO} (h : Has H a u) : H a ≠ none := by
  rcases h with h | ⟨⟨o, h⟩, _⟩ <;> rw [h] <;> exact fun z => by cases z
theorem Has.ex {H : Hp} {a : Addr} {u : HO} (h : Has H a u) (n : isDic u = false) : H a = some u := by
  rcases h with h | ⟨_, h⟩
  · exact h
  · rw [n] at h; cases h
theorem Has.same {H H' : Hp} {a : Addr} {u : HO} (h : Has H a u) (e : ∀ o, H a = some o → H' a = some o) : Has H' a u := by
  rcases h with h | ⟨⟨o, h⟩, n⟩
  · exact .inl (e _ h)
  · exact .inr ⟨⟨o, e _ h⟩, n⟩
section
variable (K : PySem.W.Frag)
def IsN : Sh → List V → HO → Prop
  | .tup, vs, o => o = .tup vs
  | .lst, vs, o => o = .lst vs
  | .dic ks, vs, o => (ks.length = vs.length ∧ ks.Nodup) ∧ o = .dK (ks.zip vs)
  | .dit ks, vs, o => (ks.length = vs.length ∧ ks.Nodup) ∧ o = .dT (ks.zip vs)
  | .ins c fs, vs, o => fs.length = vs.length ∧ ∃ dx, o = .ins (He.ga K c) dx (fs.zip vs)
  | .exd fs, vs, o => fs.length = vs.length ∧ o = .xd (fs.zip vs)
def tupOk (s : Sh) (xs : List D) : Prop := s = .tup → frzL xs = false
def ScrO (u : HO) (vs : List V) : Prop := (∃ o, u = .frz o (.lst vs)) ∨ u = .lst vs
def ScrAt (F : Hp) (a : Addr) (vs : List V) : Prop := (∃ u, F a = some u ∧ ScrO u vs) ∨ ∃ (o : Obj) (its : Array Value) (n : Nat), K.lookup a = some o ∧ o.cls = .type "list" ∧ o.dict = none ∧ o.data = .seq its n ∧ its.size ≤ sizeLine ∧ Vals vs its.toList
def TabsR (T : List (He.Defn × Str)) (F H : Hp) (fp : List Addr) : Prop :=
  (∀ p ∈ T, (He.cT K p.1).2 ∈ fp ∧ ∃ ps : Array Value, H (He.cT K p.1).2 = some (.tbl ps) ∧ TriplesOk ps.toList ∧ ∀ (pos : Pos) (cv : Value), codeAmong pos ps.toList = some cv → ∃ c, cv = .ref c ∧ F c = some (LamX.CodeO c p.2)) ∧ ∀ a ∈ fp, ∃ u, H a = some u ∧ (∀ o v, u ≠ .frz o v) ∧ isDic u = false
mutual
def Rep (F H : Hp) : D → V → List Addr → Prop
  | .non, v, fp => v = .non ∧ fp = []
  | .bl b, v, fp => v = .bl b ∧ fp = []
  | .int i, v, fp => v = .int i ∧ fp = []
  | .str x, v, fp => v = .str x ∧ fp = []
  | .ob a, v, fp => v = .ref a ∧ fp = []
  | .ty n, v, fp => v = .ty n ∧ fp = []
  | .scr ns, v, fp => ∃ a, v = .ref a ∧ fp = [] ∧ ScrAt K F a (ns.map V.int)
  | .tscr ns T, v, fp => (∃ a, v = .ref a ∧ ScrAt K F a (ns.map V.int)) ∧ TabsR K T F H fp
  | .lam f c q, v, fp => v = .ref f ∧ fp = [] ∧ F c = some (LamX.CodeO c q)
  | .node true s xs, v, fp => ∃ a u vs fq, v = .ref a ∧ fp = a :: fq ∧ Has H a u ∧ IsN K s vs u ∧ a ∉ fq ∧ tupOk s xs ∧ RepL F H xs vs fq
  | .node false s xs, v, fp => ∃ a u vs, v = .ref a ∧ fp = [] ∧ F a = some u ∧ IsN K s vs u ∧ RepL F H xs vs []
def RepL (F H : Hp) : List D → List V → List Addr → Prop
  | [], vs, fp => vs = [] ∧ fp = []
  | d :: ds, vs, fp => ∃ v ws f1 f2, vs = v :: ws ∧ fp = f1 ++ f2 ∧ (∀ a ∈ f1, a ∉ f2) ∧ Rep F H d v f1 ∧ RepL F H ds ws f2
end
variable {K} {F F' H H' : Hp}
theorem TabsR.mono {T : List (He.Defn × Str)} {fp : List Addr} (hF : ∀ a u, (∀ o v, u ≠ .frz o v) → F a = some u → F' a = some u) (h : TabsR K T F H fp) (hH : ∀ a ∈ fp, ∀ u, (∀ o v, u ≠ .frz o v) → Has H a u → Has H' a u) : TabsR K T F' H' fp := by
  obtain ⟨h1, h4⟩ := h
  have ex : ∀ a ∈ fp, ∀ u, H a = some u → (∀ o v, u ≠ .frz o v) → isDic u = false → H' a = some u := fun a ha u e z n => (hH a ha u z (.inl e)).ex n
  refine ⟨fun p hp => ?_, fun a ha => ?_⟩
  · obtain ⟨h2, ps, e1, e2, e3⟩ := h1 p hp
    refine ⟨h2, ps, ex _ h2 _ e1 (fun _ _ z => by cases z) rfl, e2, fun pos cv hc => ?_⟩
    obtain ⟨c, rfl, e4⟩ := e3 pos cv hc
    exact ⟨c, rfl, hF _ _ (fun _ _ z => by unfold LamX.CodeO at z; cases z) e4⟩
  · obtain ⟨u, e, z, y⟩ := h4 a ha
    exact ⟨u, ex a ha u e z y, z, y⟩
theorem TabsR.dom {T : List (He.Defn × Str)} {fp : List Addr} (h : TabsR K T F H fp) : ∀ a ∈ fp, H a ≠ none := fun a ha => by
  obtain ⟨u, e, _⟩ := h.2 a ha
  rw [e]
  exact fun z => by cases z
mutual
theorem Rep.mono (hF : ∀ a u, F a = some u → F' a = some u) : ∀ (d : D) (v : V) (fp : List Addr), (∀ a ∈ fp, ∀ u, Has H a u → Has H' a u) → Rep K F H d v fp → Rep K F' H' d v fp
  | .non, v, fp, _, h => h
  | .bl _, v, fp, _, h => h
  | .int _, v, fp, _, h => h
  | .str _, v, fp, _, h => h
  | .ob _, v, fp, _, h => h
  | .ty _, v, fp, _, h => h
  | .scr _, v, fp, _, h => by
    obtain ⟨a, h1, h2, h3⟩ := h
    exact ⟨a, h1, h2, h3.imp (fun ⟨o, z, zz⟩ => ⟨o, hF _ _ z, zz⟩) id⟩
  | .tscr _ _, v, fp, hH, h => by
    obtain ⟨⟨a, h1, h3⟩, h4⟩ := h
    exact ⟨⟨a, h1, h3.imp (fun ⟨o, z, zz⟩ => ⟨o, hF _ _ z, zz⟩) id⟩, h4.mono (fun b u _ => hF b u) fun b hb u _ => hH b hb u⟩
  | .lam _ _ _, v, fp, hH, h => ⟨h.1, h.2.1, hF _ _ h.2.2⟩
  | .node true s xs, v, fp, hH, h => by
    simp only [Rep] at h ⊢
    obtain ⟨a, u, vs, fq, rfl, rfl, h1, h2, h3, h4, h5⟩ := h
    exact ⟨a, u, vs, fq, rfl, rfl, hH a (List.mem_cons_self ..) u h1, h2, h3, h4, RepL.mono hF xs vs fq (fun b hb => hH b (List.mem_cons_of_mem _ hb)) h5⟩
  | .node false s xs, v, fp, hH, h => by
    simp only [Rep] at h ⊢
    obtain ⟨a, u, vs, rfl, rfl, h1, h2, h3⟩ := h
    exact ⟨a, u, vs, rfl, rfl, hF a u h1, h2, RepL.mono hF xs vs [] (fun b hb => nomatch hb) h3⟩
theorem RepL.mono (hF : ∀ a u, F a = some u → F' a = some u) : ∀ (ds : List D) (vs : List V) (fp : List Addr), (∀ a ∈ fp, ∀ u, Has H a u → Has H' a u) → RepL K F H ds vs fp → RepL K F' H' ds vs fp
  | [], vs, fp, _, h => h
  | d :: ds, vs, fp, hH, h => by
    simp only [RepL] at h ⊢
    obtain ⟨v, ws, f1, f2, rfl, rfl, h1, h2, h3⟩ := h
    exact ⟨v, ws, f1, f2, rfl, rfl, h1, Rep.mono hF d v f1 (fun b hb => hH b (List.mem_append_left _ hb)) h2, RepL.mono hF ds ws f2 (fun b hb => hH b (List.mem_append_right _ hb)) h3⟩
end
theorem Rep.frz_nil : ∀ (d : D) (v : V) (fp : List Addr), d.frz = true → Rep K F H d v fp → fp = []
  | .non, v, fp, _, h => h.2
  | .bl _, v, fp, _, h => h.2
  | .int _, v, fp, _, h => h.2
  | .str _, v, fp, _, h => h.2
  | .ob _, v, fp, _, h => h.2
  | .ty _, v, fp, _, h => h.2
  | .scr _, v, fp, _, h => by
    obtain ⟨a, h1, h2, h3⟩ := h
    exact h2
  | .tscr _ _, v, fp, hz, h => by simp [D.frz] at hz
  | .lam _ _ _, v, fp, _, h => h.2.1
  | .node true s xs, v, fp, hz, h => by simp [D.frz] at hz
  | .node false s xs, v, fp, _, h => by
    simp only [Rep] at h
    obtain ⟨a, u, vs, rfl, rfl, _⟩ := h
    rfl
theorem RepL.frz_nil : ∀ (ds : List D) (vs : List V) (fp : List Addr), frzL ds = true → RepL K F H ds vs fp → fp = []
  | [], vs, fp, _, h => h.2
  | d :: ds, vs, fp, hz, h => by
    simp only [frzL, Bool.and_eq_true] at hz
    simp only [RepL] at h
    obtain ⟨v, ws, f1, f2, rfl, rfl, h1, h2, h3⟩ := h
    rw [Rep.frz_nil d v f1 hz.1 h2, RepL.frz_nil ds ws f2 hz.2 h3]
    rfl
mutual
theorem Rep.dom : ∀ (d : D) (v : V) (fp : List Addr), Rep K F H d v fp → ∀ a ∈ fp, H a ≠ none
  | .non, v, fp, h => by rw [h.2]; exact fun a z => nomatch z
  | .bl _, v, fp, h => by rw [h.2]; exact fun a z => nomatch z
  | .int _, v, fp, h => by rw [h.2]; exact fun a z => nomatch z
  | .str _, v, fp, h => by rw [h.2]; exact fun a z => nomatch z
  | .ob _, v, fp, h => by rw [h.2]; exact fun a z => nomatch z
  | .ty _, v, fp, h => by rw [h.2]; exact fun a z => nomatch z
  | .scr _, v, fp, h => by
    obtain ⟨a, h1, h2, h3⟩ := h
    rw [h2]
    exact fun a z => nomatch z
  | .tscr _ _, v, fp, h => h.2.dom
  | .lam _ _ _, v, fp, h => by rw [h.2.1]; exact fun a z => nomatch z
  | .node true s xs, v, fp, h => by
    simp only [Rep] at h
    obtain ⟨a, u, vs, fq, rfl, rfl, h1, h2, h3, h4, h5⟩ := h
    intro b hb
    rcases List.mem_cons.mp hb with rfl | hb
    · exact h1.ne
    · exact RepL.dom xs vs fq h5 b hb
  | .node false s xs, v, fp, h => by
    simp only [Rep] at h
    obtain ⟨a, u, vs, rfl, rfl, _⟩ := h
    exact fun a z => nomatch z
theorem RepL.dom : ∀ (ds : List D) (vs : List V) (fp : List Addr), RepL K F H ds vs fp → ∀ a ∈ fp, H a ≠ none
  | [], vs, fp, h => by rw [h.2]; exact fun a z => nomatch z
  | d :: ds, vs, fp, h => by
    simp only [RepL] at h
    obtain ⟨v, ws, f1, f2, rfl, rfl, h1, h2, h3⟩ := h
    intro b hb
    rcases List.mem_append.mp hb with hb | hb
    · exact Rep.dom d v f1 h2 b hb
    · exact RepL.dom ds ws f2 h3 b hb
end
theorem RepL.len : ∀ (ds : List D) (vs : List V) (fp : List Addr), RepL K F H ds vs fp → vs.length = ds.length
  | [], vs, fp, h => by rw [h.1]; rfl
  | d :: ds, vs, fp, h => by
    simp only [RepL] at h
    obtain ⟨v, ws, f1, f2, rfl, rfl, h1, h2, h3⟩ := h
    rw [List.length_cons, List.length_cons, RepL.len ds ws f2 h3]
theorem RepL.mk {d : D} {ds : List D} {v : V} {ws : List V} {f1 f2 : List Addr} (h1 : ∀ a ∈ f1, a ∉ f2) (h2 : Rep K F H d v f1) (h3 : RepL K F H ds ws f2) : RepL K F H (d :: ds) (v :: ws) (f1 ++ f2) := by
  simp only [RepL]
  exact ⟨v, ws, f1, f2, rfl, rfl, h1, h2, h3⟩
mutual
theorem Rep.freeze (hF : ∀ a u, F a = some u → F' a = some u) : ∀ (d : D) (v : V) (fp : List Addr), (∀ a ∈ fp, ∀ u, Has H a u → F' a = some u) → Rep K F H d v fp → Rep K F' H' d.fz v []
  | .non, v, fp, _, h => ⟨h.1, rfl⟩
  | .bl _, v, fp, _, h => ⟨h.1, rfl⟩
  | .int _, v, fp, _, h => ⟨h.1, rfl⟩
  | .str _, v, fp, _, h => ⟨h.1, rfl⟩
  | .ob _, v, fp, _, h => ⟨h.1, rfl⟩
  | .ty _, v, fp, _, h => ⟨h.1, rfl⟩
  | .scr _, v, fp, _, h => by
    obtain ⟨a, h1, h2, h3⟩ := h
    exact ⟨a, h1, rfl, h3.imp (fun ⟨o, z, zz⟩ => ⟨o, hF _ _ z, zz⟩) id⟩
  | .tscr _ _, v, fp, _, h => by
    obtain ⟨⟨a, h1, h3⟩, h4⟩ := h
    exact ⟨a, h1, rfl, h3.imp (fun ⟨o, z, zz⟩ => ⟨o, hF _ _ z, zz⟩) id⟩
  | .lam _ _ _, v, fp, _, h => ⟨h.1, rfl, hF _ _ h.2.2⟩
  | .node true s xs, v, fp, hH, h => by
    simp only [Rep] at h
    obtain ⟨a, u, vs, fq, rfl, rfl, h1, h2, h3, h4, h5⟩ := h
    rw [D.fz, Rep]
    exact ⟨a, u, vs, rfl, rfl, hH a (List.mem_cons_self ..) u h1, h2, RepL.freeze hF xs vs fq (fun b hb => hH b (List.mem_cons_of_mem _ hb)) h5⟩
  | .node false s xs, v, fp, hH, h => by
    simp only [Rep] at h
    obtain ⟨a, u, vs, rfl, rfl, h1, h2, h3⟩ := h
    rw [D.fz, Rep]
    exact ⟨a, u, vs, rfl, rfl, hF a u h1, h2, RepL.freeze hF xs vs [] (fun b hb => nomatch hb) h3⟩
theorem RepL.freeze (hF : ∀ a u, F a = some u → F' a = some u) : ∀ (ds : List D) (vs : List V) (fp : List Addr), (∀ a ∈ fp, ∀ u, Has H a u → F' a = some u) → RepL K F H ds vs fp → RepL K F' H' (fzL ds) vs []
  | [], vs, fp, _, h => ⟨h.1, rfl⟩
  | d :: ds, vs, fp, hH, h => by
    simp only [RepL, fzL] at h
    obtain ⟨v, ws, f1, f2, rfl, rfl, h1, h2, h3⟩ := h
    rw [fzL]
    exact RepL.mk (f1 := []) (f2 := []) (fun a z => by cases z) (Rep.freeze hF d v f1 (fun b hb => hH b (List.mem_append_left _ hb)) h2) (RepL.freeze hF ds ws f2 (fun b hb => hH b (List.mem_append_right _ hb)) h3)
end
theorem RepL.get : ∀ (ds : List D) (vs : List V) (fp : List Addr) (i : Nat) (d : D), RepL K F H ds vs fp → ds[i]? = some d → ∃ v fq, vs[i]? = some v ∧ Rep K F H d v fq ∧ ∀ a ∈ fq, a ∈ fp
  | [], vs, fp, i, d, h, e => by simp at e
  | d :: ds, vs, fp, 0, d', h, e => by
    simp only [RepL] at h
    obtain ⟨v, ws, f1, f2, rfl, rfl, h1, h2, h3⟩ := h
    simp at e
    subst e
    exact ⟨v, f1, rfl, h2, fun a ha => List.mem_append_left _ ha⟩
  | d :: ds, vs, fp, i + 1, d', h, e => by
    simp only [RepL] at h
    obtain ⟨v, ws, f1, f2, rfl, rfl, h1, h2, h3⟩ := h
    obtain ⟨v', fq, e1, e2, e3⟩ := RepL.get ds ws f2 i d' h3 (by simpa using e)
    exact ⟨v', fq, by simpa using e1, e2, fun a ha => List.mem_append_right _ (e3 a ha)⟩
end
end DL
namespace DL
open PySem PySem.Spec L2
inductive Sl where
  | dead | own (d : D) | bor (r : Option Nat) (d : D)
abbrev Evn := List Sl
abbrev Fp := Nat → List Addr
def isOwn (env : Evn) (i : Nat) : Prop := ∃ d, env[i]? = some (.own d)
def isLk (env : Evn) (i : Nat) : Prop := ∃ d, env[i]? = some (.bor (some i) d)
def hold (env : Evn) (i : Nat) : Prop := isOwn env i ∨ isLk env i
def OwnA (env : Evn) (fp : Fp) (a : Addr) : Prop := ∃ i, isOwn env i ∧ a ∈ fp i
def LkA (env : Evn) (fp : Fp) (a : Addr) : Prop := ∃ i, isLk env i ∧ a ∈ fp i
def NF (H : Hp) (a : Addr) : Prop := ∀ o u, H a = some (.frz o u) → False
structure Zst where
  B : Addr → Prop
  pins : List (Nat × Option V)
  n : Nat
  gh : List (D × V)
section
variable (K : PySem.W.Frag)
def SlotR (Z : Zst) (F H : Hp) (env : Evn) (σ : St) (fp : Fp) (i : Nat) : Prop := match env[i]? with
  | some (.own d) => ∃ v, σ[i]? = some (some v) ∧ Rep K F H d v (fp i)
  | some (.bor none d) => ∃ v, σ[i]? = some (some v) ∧ Rep K F H d v (fp i) ∧ ∀ a ∈ fp i, Z.B a
  | some (.bor (some j) d) => ∃ v, σ[i]? = some (some v) ∧ Rep K F H d v (fp i) ∧ hold env j ∧ ∀ a ∈ fp i, a ∈ fp j
  | _ => True
structure R (Z : Zst) (F H : Hp) (env : Evn) (σ : St) (fp : Fp) : Prop where
  sub : ∀ a u, F a = some u → Has H a u
  slot : ∀ i, SlotR K Z F H env σ fp i
  sep : ∀ i j, i ≠ j → hold env i → hold env j → ∀ a ∈ fp i, a ∉ fp j
  sepB : ∀ i, hold env i → ∀ a ∈ fp i, ¬ Z.B a
  hF : ∀ i, hold env i → ∀ a ∈ fp i, F a = none
  domB : ∀ a, Z.B a → H a ≠ none
  pin : ∀ p ∈ Z.pins, σ[p.1]? = some p.2
  gh : ∀ p ∈ Z.gh, Rep K F H p.1 p.2 []
  len : σ.length = Z.n ∧ env.length = Z.n
  nf : ∀ i, isOwn env i → ∀ a ∈ fp i, NF H a
end
structure Ev (ε : Bool) (F H : Hp) (env : Evn) (fp : Fp) (F' H' : Hp) (env' : Evn) (fp' : Fp) : Prop where
  keep : ∀ a o, H a = some o → (ε = true → ¬ OwnA env fp a) → H' a = some o
  sub : ∀ a u, F a = some u → F' a = some u
  new : ∀ a, F a = none → F' a ≠ none → H a = none ∨ (ε = true ∧ OwnA env fp a)
  own : ∀ a, OwnA env' fp' a → H a = none ∨ OwnA env fp a
  lks : ∀ i, isLk env' i → env'[i]? = env[i]? ∧ fp' i = fp i
  nofz : ∀ a o u, H' a = some (.frz o u) → H a = some (.frz o u)
  dom : ∀ a, H a ≠ none → H' a ≠ none
  pure : ε = false → env' = env ∧ fp' = fp
inductive Kd where
  | own | frz | bor (j : Nat)
def live (env : Evn) (j : Nat) : Prop := ∃ s, env[j]? = some s ∧ (∀ z : s = Sl.dead, False)
def KOk (k : Kd) (H : Hp) (env : Evn) (fp : Fp) (F' : Hp) (env' : Evn) (fp' : Fp) (fr : List Addr) : Prop := match k with
  | .own => ∀ a ∈ fr, (H a = none ∨ OwnA env fp a) ∧ ¬ OwnA env' fp' a ∧ F' a = none
  | .frz => fr = []
  | .bor j => live env' j ∧ ∀ a ∈ fr, a ∈ fp' j
section
variable {K : PySem.W.Frag} {ε ε1 ε2 : Bool} {F H F1 H1 F2 H2 F' H' : Hp} {env env1 env2 env' : Evn} {fp fp1 fp2 fp' : Fp} {Z : Zst} {σ : St}
theorem Ev.refl (ε : Bool) (r : Z = Z) : Ev ε F H env fp F H env fp :=
  ⟨fun _ _ h _ => h, fun _ _ h => h, fun a h n => absurd h n, fun _ h => .inr h, fun _ _ => ⟨rfl, rfl⟩, fun _ _ _ h => h, fun _ h => h, fun _ => ⟨rfl, rfl⟩⟩
theorem Ev.mono (e : Ev ε F H env fp F' H' env' fp') (h : ε = true → ε1 = true) (p : ε1 = false → ε = false) : Ev ε1 F H env fp F' H' env' fp' :=
  ⟨fun a o x y => e.keep a o x fun z => y (h z), e.sub, fun a x y => (e.new a x y).imp id fun z => ⟨h z.1, z.2⟩, e.own, e.lks, e.nofz, e.dom, fun z => e.pure (p z)⟩
theorem Ev.nd (e : Ev ε F H env fp F' H' env' fp') {a : Addr} (h : H' a = none) : H a = none := by
  cases q : H a with
  | none => rfl
  | some o => exact absurd h (e.dom a (by rw [q]; exact fun z => by cases z))
theorem Ev.isLk (e : Ev ε F H env fp F' H' env' fp') {i : Nat} (h : DL.isLk env' i) : DL.isLk env i := by
  obtain ⟨a1, _⟩ := e.lks i h
  obtain ⟨d, hd⟩ := h
  exact ⟨d, by rw [← a1]; exact hd⟩
theorem Ev.lk (e : Ev ε F H env fp F' H' env' fp') (a : Addr) (h : LkA env' fp' a) : LkA env fp a := by
  obtain ⟨i, hi, ha⟩ := h
  exact ⟨i, e.isLk hi, by rw [← (e.lks i hi).2]; exact ha⟩
theorem Ev.trans (e1 : Ev ε1 F H env fp F1 H1 env1 fp1) (e2 : Ev ε2 F1 H1 env1 fp1 F2 H2 env2 fp2) : Ev (ε1 || ε2) F H env fp F2 H2 env2 fp2 where
  keep := fun a o h n => by
    have h1 := e1.keep a o h fun z => n (by rw [z]; rfl)
    refine e2.keep a o h1 fun z w => ?_
    rcases e1.own a w with q | q
    · rw [h] at q; cases q
    · exact n (by rw [z]; cases ε1 <;> rfl) q
  sub := fun a u h => e2.sub a u (e1.sub a u h)
  new := fun a h n => by
    cases q : F1 a with
    | none =>
      rcases e2.new a q n with z | ⟨z, w⟩
      · exact .inl (e1.nd z)
      · rcases e1.own a w with q | q
        · exact .inl q
        · exact .inr ⟨by rw [z]; cases ε1 <;> rfl, q⟩
    | some u =>
      rcases e1.new a h (by rw [q]; exact fun z => by cases z) with z | ⟨z, w⟩
      · exact .inl z
      · exact .inr ⟨by rw [z]; rfl, w⟩
  own := fun a h => by
    rcases e2.own a h with z | z
    · exact .inl (e1.nd z)
    · exact e1.own a z
  lks := fun i h => by
    obtain ⟨a1, a2⟩ := e2.lks i h
    have h1 : DL.isLk env1 i := by
      obtain ⟨d, hd⟩ := h
      exact ⟨d, by rw [← a1]; exact hd⟩
    obtain ⟨b1, b2⟩ := e1.lks i h1
    exact ⟨a1.trans b1, a2.trans b2⟩
  nofz := fun a o u h => e1.nofz a o u (e2.nofz a o u h)
  dom := fun a h => e2.dom a (e1.dom a h)
  pure := fun z => by
    have z1 : ε1 = false := by cases ε1 <;> cases ε2 <;> simp_all
    have z2 : ε2 = false := by cases ε1 <;> cases ε2 <;> simp_all
    obtain ⟨a1, a2⟩ := e1.pure z1
    obtain ⟨b1, b2⟩ := e2.pure z2
    exact ⟨b1.trans a1, b2.trans a2⟩
theorem R.hold_dom (r : R K Z F H env σ fp) {i : Nat} (h : hold env i) {a : Addr} (ha : a ∈ fp i) : H a ≠ none := by
  have s := r.slot i
  unfold SlotR at s
  rcases h with ⟨d, e⟩ | ⟨d, e⟩ <;> rw [e] at s
  · obtain ⟨v, _, h⟩ := s
    exact Rep.dom d v _ h a ha
  · obtain ⟨v, _, h, _⟩ := s
    exact Rep.dom d v _ h a ha
theorem R.own_dom (r : R K Z F H env σ fp) {a : Addr} (h : OwnA env fp a) : H a ≠ none := let ⟨_, h1, h2⟩ := h; r.hold_dom (.inl h1) h2
theorem R.own_F (r : R K Z F H env σ fp) {a : Addr} (h : OwnA env fp a) : F a = none := let ⟨i, h1, h2⟩ := h; r.hF i (.inl h1) a h2
theorem R.own_B (r : R K Z F H env σ fp) {a : Addr} (h : OwnA env fp a) : ¬ Z.B a := let ⟨i, h1, h2⟩ := h; r.sepB i (.inl h1) a h2
theorem R.own_lk (r : R K Z F H env σ fp) {a : Addr} (h : OwnA env fp a) : ¬ LkA env fp a := fun h' => by
  obtain ⟨i, ⟨d, e⟩, h2⟩ := h
  obtain ⟨j, ⟨d', e'⟩, h4⟩ := h'
  have ne : i ≠ j := fun z => by
    subst z
    rw [e] at e'
    cases e'
  exact r.sep i j ne (.inl ⟨d, e⟩) (.inr ⟨d', e'⟩) a h2 h4
theorem R.own_nf (r : R K Z F H env σ fp) {a : Addr} (h : OwnA env fp a) : NF H a := let ⟨i, h1, h2⟩ := h; r.nf i h1 a h2
theorem Rep.ev {d : D} {v : V} {fr : List Addr} (e : Ev ε F H env fp F' H' env' fp') (h : Rep K F H d v fr) (n : ε = true → ∀ a ∈ fr, ¬ OwnA env fp a) : Rep K F' H' d v fr :=
  Rep.mono e.sub d v fr (fun a ha u hu => hu.same fun o ho => e.keep a o ho fun z => n z a ha) h
theorem KOk.ev {k : Kd} {H0 : Hp} {env0 : Evn} {fp0 : Fp} {d : D} {v : V} {fr : List Addr} (e : Ev ε F H env fp F' H' env' fp') (h : Rep K F H d v fr) (p : ε = true → ∀ j, k ≠ .bor j) (x : KOk k H0 env0 fp0 F env fp fr) :
    Rep K F' H' d v fr ∧ KOk k H0 env0 fp0 F' env' fp' fr := by
  cases k with
  | own =>
    refine ⟨h.ev e fun _ a ha => (x a ha).2.1, fun a ha => ?_⟩
    obtain ⟨x1, x2, x3⟩ := x a ha
    have nd := Rep.dom d v fr h a ha
    refine ⟨x1, fun z => ?_, ?_⟩
    · rcases e.own a z with q | q
      · exact nd q
      · exact x2 q
    · cases q : F' a with
      | none => rfl
      | some u =>
        rcases e.new a x3 (by rw [q]; exact fun z => by cases z) with z | ⟨_, z⟩
        · exact absurd z nd
        · exact absurd z x2
  | frz =>
    have x' : fr = [] := x
    subst x'
    exact ⟨h.ev e (fun _ a ha => by cases ha), rfl⟩
  | bor j =>
    cases ε with
    | true => exact absurd rfl (p rfl j)
    | false =>
      obtain ⟨e1, e2⟩ := e.pure rfl
      subst e1 e2
      exact ⟨h.ev e (fun z => by cases z), x⟩
structure Grow (F H F' H' : Hp) : Prop where
  keep : ∀ a o, H a = some o → H' a = some o
  sub : ∀ a u, F a = some u → F' a = some u
  new : ∀ a, F a = none → F' a ≠ none → H a = none
  has : ∀ a u, F' a = some u → Has H' a u
  nofz : ∀ a o u, H' a = some (.frz o u) → H a = some (.frz o u)
theorem Grow.refl (h : ∀ a u, F a = some u → Has H a u) : Grow F H F H := ⟨fun _ _ h => h, fun _ _ h => h, fun a h n => absurd h n, h, fun _ _ _ h => h⟩
theorem Grow.dom (g : Grow F H F' H') {a : Addr} (h : H a ≠ none) : H' a ≠ none := by
  cases q : H a with
  | none => exact absurd q h
  | some o => rw [g.keep a o q]; exact fun z => by cases z
theorem Grow.trans (a : Grow F H F1 H1) (b : Grow F1 H1 F2 H2) : Grow F H F2 H2 where
  keep := fun x o h => b.keep x o (a.keep x o h)
  sub := fun x u h => b.sub x u (a.sub x u h)
  new := fun x h n => by
    cases q : F1 x with
    | none =>
      have z := b.new x q n
      cases w : H x with
      | none => rfl
      | some o =>
        rw [a.keep x o w] at z
        cases z
    | some u => exact a.new x h (by rw [q]; exact fun z => by cases z)
  has := b.has
  nofz := fun x o u h => a.nofz x o u (b.nofz x o u h)
theorem Rep.grow {d : D} {v : V} {fr : List Addr} (g : Grow F H F' H') (h : Rep K F H d v fr) : Rep K F' H' d v fr :=
  Rep.mono g.sub d v fr (fun a _ u hu => hu.same fun o ho => g.keep a o ho) h
theorem RepL.grow {ds : List D} {vs : List V} {fr : List Addr} (g : Grow F H F' H') (h : RepL K F H ds vs fr) : RepL K F' H' ds vs fr :=
  RepL.mono g.sub ds vs fr (fun a _ u hu => hu.same fun o ho => g.keep a o ho) h
theorem Grow.ev (g : Grow F H F' H') : Ev ε F H env fp F' H' env fp where
  keep := fun a o h _ => g.keep a o h
  sub := g.sub
  new := fun a h n => .inl (g.new a h n)
  own := fun a h => .inr h
  lks := fun _ _ => ⟨rfl, rfl⟩
  nofz := g.nofz
  dom := fun a h => g.dom h
  pure := fun _ => ⟨rfl, rfl⟩
theorem SlotR.map {i : Nat} (h : SlotR K Z F H env σ fp i) (hm : ∀ d v, Rep K F H d v (fp i) → Rep K F' H' d v (fp i)) : SlotR K Z F' H' env σ fp i := by
  unfold SlotR at h ⊢
  split at h
  · obtain ⟨v, h1, h2⟩ := h
    exact ⟨v, h1, hm _ _ h2⟩
  · obtain ⟨v, h1, h2, h3⟩ := h
    exact ⟨v, h1, hm _ _ h2, h3⟩
  · obtain ⟨v, h1, h2, h3⟩ := h
    exact ⟨v, h1, hm _ _ h2, h3⟩
  · trivial
theorem R.grow (r : R K Z F H env σ fp) (g : Grow F H F' H') : R K Z F' H' env σ fp where
  sub := g.has
  slot := fun i => (r.slot i).map fun d v h => h.grow g
  sep := r.sep
  sepB := r.sepB
  hF := fun i hi a ha => by
    cases q : F' a with
    | none => rfl
    | some u => exact absurd (g.new a (r.hF i hi a ha) (by rw [q]; exact fun z => by cases z)) (r.hold_dom hi ha)
  domB := fun a h => g.dom (r.domB a h)
  pin := r.pin
  gh := fun p hp => (r.gh p hp).grow g
  len := r.len
  nf := fun i hi a ha o u h => r.nf i hi a ha o u (g.nofz a o u h)
def notFz : HO → Bool
  | .frz _ _ => false
  | _ => true
theorem IsN.nfz {s : Sh} {vs : List V} {u : HO} (h : IsN K s vs u) : notFz u = true := by
  cases s <;> simp only [IsN] at h
  · rw [h]; rfl
  · rw [h]; rfl
  · rw [h.2]; rfl
  · rw [h.2]; rfl
  · obtain ⟨_, dx, rfl⟩ := h; rfl
  · rw [h.2]; rfl
theorem nofz_upd {p : Addr} {o : HO} (n : notFz o = true) : ∀ a q u, upd H p o a = some (.frz q u) → H a = some (.frz q u) := fun a q u h => by
  by_cases e : a = p
  · rw [e, upd_same] at h
    cases h
    cases n
  · rw [upd_ne e] at h
    exact h
theorem Grow.upd {p : Addr} {o : HO} (h : ∀ a u, F a = some u → Has H a u) (n : H p = none) (nz : notFz o = true := by rfl) : Grow F H F (upd H p o) where
  keep := fun a q e => by rw [upd_ne (ne_of_none e n)]; exact e
  sub := fun _ _ h => h
  new := fun a h n => absurd h n
  has := fun a u e => (h a u e).same fun q e' => by rw [upd_ne (ne_of_none e' n)]; exact e'
  nofz := nofz_upd nz
theorem Grow.updF {p : Addr} {o : HO} (h : ∀ a u, F a = some u → Has H a u) (n : H p = none) (nz : notFz o = true := by rfl) : Grow F H (L2.upd F p o) (L2.upd H p o) where
  keep := fun a q e => by rw [upd_ne (ne_of_none e n)]; exact e
  sub := fun a u e => by
    have ne : a ≠ p := fun z => by
      subst z
      exact (h a u e).ne n
    rw [upd_ne ne]
    exact e
  new := fun a h0 n0 => by
    by_cases z : a = p
    · rw [z]; exact n
    · rw [upd_ne z] at n0
      exact absurd h0 n0
  has := fun a u e => by
    by_cases z : a = p
    · subst z
      rw [upd_same] at e
      exact .inl (by rw [upd_same]; exact e)
    · rw [upd_ne z] at e
      exact (h a u e).same fun q e' => by rw [upd_ne z]; exact e'
  nofz := nofz_upd nz
end
end DL
namespace DL
open PySem PySem.Spec L2
inductive Rs (α : Type) where
  | ok (a : α) (env : Evn) | exc (c : Str) (x : D) (env : Evn) | stuck
def Rs.bind {α β : Type} (r : Rs α) (k : α → Evn → Rs β) : Rs β := match r with
  | .ok a e => k a e
  | .exc c x e => .exc c x e
  | .stuck => .stuck
def Rs.map {α β : Type} (f : α → β) (r : Rs α) : Rs β := r.bind fun a e => .ok (f a) e
@[simp] theorem Rs.bind_ok {α β : Type} (a : α) (e : Evn) (k : α → Evn → Rs β) : (Rs.ok a e).bind k = k a e := (rfl)
@[simp] theorem Rs.bind_exc {α β : Type} (c : Str) (x : D) (e : Evn) (k : α → Evn → Rs β) : (Rs.exc c x e : Rs α).bind k = .exc c x e := (rfl)
@[simp] theorem Rs.bind_stuck {α β : Type} (k : α → Evn → Rs β) : (Rs.stuck : Rs α).bind k = .stuck := (rfl)
@[simp] theorem Rs.map_ok {α β : Type} (a : α) (e : Evn) (f : α → β) : (Rs.ok a e).map f = .ok (f a) e := (rfl)
@[simp] theorem Rs.map_exc {α β : Type} (c : Str) (x : D) (e : Evn) (f : α → β) : (Rs.exc c x e : Rs α).map f = .exc c x e := (rfl)
@[simp] theorem Rs.map_stuck {α β : Type} (f : α → β) : (Rs.stuck : Rs α).map f = .stuck := (rfl)
abbrev FE := Evn → Rs D
abbrev FT := Evn → Rs Bool
abbrev FA := Evn → Rs (List D)
def KOks (H : Hp) (env : Evn) (fp : Fp) (F' : Hp) (env' : Evn) (fp' : Fp) : List Kd → List (List Addr) → Prop
  | [], [] => True
  | k :: ks, f :: fs => KOk k H env fp F' env' fp' f ∧ (k = .own → ∀ (i : Nat) (g : List Addr), ks[i]? = some Kd.own → fs[i]? = some g → ∀ a ∈ f, a ∉ g) ∧ KOks H env fp F' env' fp' ks fs
  | _, _ => False
section
variable (K : PySem.W.Frag)
def RepA (F H : Hp) : List D → List V → List (List Addr) → Prop
  | [], [], [] => True
  | d :: ds, v :: vs, f :: fs => Rep K F H d v f ∧ RepA F H ds vs fs
  | _, _, _ => False
def Post {α : Type} (W : WX) (ε : Bool) (Z : Zst) (F H : Hp) (env : Evn) (σ : L2.St) (fp : Fp) (G : α → Evn → Prop) : Rs α → Prop
  | .ok a env' => G a env'
  | .exc c x env' => ∀ F' H' fp' dx, Ev ε F H env fp F' H' env' fp' → R K Z F' H' env' σ fp' → Rep K F' H' x (.ref dx) [] → W (.ref (He.ga K c)) (some dx) σ H'
  | .stuck => False
def ESim (W : WX) (ε : Bool) (k : Kd) (t : TE) (f : FE) : Prop := ∀ Z F H env σ fp Q, R K Z F H env σ fp →
  Post K W ε Z F H env σ fp (fun d env' => ∀ F' H' fp' v fr, Ev ε F H env fp F' H' env' fp' → R K Z F' H' env' σ fp' → Rep K F' H' d v fr → KOk k H env fp F' env' fp' fr → Q v H') (f env) → t σ H Q
def TSim (W : WX) (ε : Bool) (t : TT) (f : FT) : Prop := ∀ Z F H env σ fp Q, R K Z F H env σ fp →
  Post K W ε Z F H env σ fp (fun b env' => ∀ F' H' fp', Ev ε F H env fp F' H' env' fp' → R K Z F' H' env' σ fp' → Q b H') (f env) → t σ H Q
def ASim (W : WX) (ε : Bool) (ks : List Kd) (t : TA) (f : FA) : Prop := ∀ Z F H env σ fp Q, R K Z F H env σ fp →
  Post K W ε Z F H env σ fp (fun ds env' => ∀ F' H' fp' vs frs, Ev ε F H env fp F' H' env' fp' → R K Z F' H' env' σ fp' → RepA K F' H' ds vs frs → KOks H env fp F' env' fp' ks frs → Q vs H') (f env) → t σ H Q
end
section
variable {K : PySem.W.Frag} {W : WX} {ε ε1 ε2 : Bool} {F H F1 H1 F2 H2 F' H' : Hp} {env env1 env2 env' : Evn} {fp fp1 fp2 fp' : Fp} {Z : Zst} {σ : L2.St} {k k1 k2 : Kd} {ks : List Kd}
theorem KOk.rel {fr : List Addr} (e : Ev ε F H env fp F1 H1 env1 fp1) (x : KOk k H1 env1 fp1 F2 env2 fp2 fr) : KOk k H env fp F2 env2 fp2 fr := by
  cases k with
  | own =>
    intro a ha
    obtain ⟨x1, x2, x3⟩ := x a ha
    refine ⟨?_, x2, x3⟩
    rcases x1 with z | z
    · exact .inl (e.nd z)
    · exact e.own a z
  | frz => exact x
  | bor j => exact x
theorem KOks.rel (e : Ev ε F H env fp F1 H1 env1 fp1) : ∀ {ks : List Kd} {frs : List (List Addr)}, KOks H1 env1 fp1 F2 env2 fp2 ks frs → KOks H env fp F2 env2 fp2 ks frs
  | [], [], _ => trivial
  | [], _ :: _, h => h.elim
  | _ :: _, [], h => h.elim
  | k :: ks, f :: fs, h => ⟨h.1.rel e, h.2.1, KOks.rel e h.2.2⟩
theorem KOks.get : ∀ {ks : List Kd} {frs : List (List Addr)} {i : Nat} {k : Kd} {f : List Addr}, KOks H env fp F' env' fp' ks frs → ks[i]? = some k → frs[i]? = some f → KOk k H env fp F' env' fp' f
  | [], _, i, k, f, _, h, _ => by simp at h
  | _ :: _, [], _, _, _, h, _, _ => h.elim
  | k :: ks, f :: fs, 0, k', f', h, h1, h2 => by
    simp at h1 h2
    subst h1 h2
    exact h.1
  | k :: ks, f :: fs, i + 1, k', f', h, h1, h2 => KOks.get (ks := ks) (frs := fs) (i := i) h.2.2 (by simpa using h1) (by simpa using h2)
theorem Post.seq {α β : Type} {G : β → Evn → Prop} {a : α} (e : Ev ε1 F H env fp F1 H1 env1 fp1) {r : Rs β} (h : Post K W (ε1 || ε2) Z F H env σ fp G r) : Post K W ε2 Z F1 H1 env1 σ fp1 G r := by
  cases r with
  | ok b e' => exact h
  | exc c x e' => exact fun F' H' fp' dx e2 r2 h2 => h F' H' fp' dx (e.trans e2) r2 h2
  | stuck => exact h
theorem Post.imp {α : Type} {G G' : α → Evn → Prop} {r : Rs α} (h : Post K W ε Z F H env σ fp G r) (i : ∀ a e, G a e → G' a e) : Post K W ε Z F H env σ fp G' r := by
  cases r with
  | ok b e' => exact i _ _ h
  | exc c x e' => exact h
  | stuck => exact h
theorem Post.bind {α β : Type} {G : β → Evn → Prop} {G1 : α → Evn → Prop} {r : Rs α} {kk : α → Evn → Rs β} (h : Post K W ε Z F H env σ fp G (r.bind kk)) (hε : ε1 = true → ε = true) (hp : ε = false → ε1 = false)
    (i : ∀ a e, Post K W ε Z F H env σ fp G (kk a e) → G1 a e) : Post K W ε1 Z F H env σ fp G1 r := by
  cases r with
  | ok b e' => exact i _ _ h
  | exc c x e' => exact fun F' H' fp' dx e2 r2 h2 => h F' H' fp' dx (e2.mono hε hp) r2 h2
  | stuck => exact h.elim
theorem orL {a b : Bool} : a = true → (a || b) = true := fun h => by rw [h]; rfl
theorem orLF {a b : Bool} : (a || b) = false → a = false := fun h => by cases a <;> simp_all
theorem orR {a b : Bool} : b = true → (a || b) = true := fun h => by rw [h]; cases a <;> rfl
theorem orRF {a b : Bool} : (a || b) = false → b = false := fun h => by cases a <;> simp_all
def aNil : FA := fun env => .ok [] env
def aCons (f : FE) (g : FA) : FA := fun env => (f env).bind fun d e => (g e).map (d :: ·)
theorem asim_nil : ASim K W false [] tNil aNil := fun Z F H env σ fp Q r h => h F H fp [] [] (Ev.refl (Z := Z) _ rfl) r trivial trivial
theorem asim_cons {te : TE} {ta : TA} {f : FE} {g : FA} (he : ESim K W ε1 k1 te f) (ha : ASim K W ε2 ks ta g) (hp : ε2 = true → ∀ j, k1 ≠ .bor j := by first | exact fun h => (nomatch h) | exact fun _ j h => (nomatch h)) :
    ASim K W (ε1 || ε2) (k1 :: ks) (tCons te ta) (aCons f g) := by
  intro Z F H env σ fp Q r h
  refine he Z F H env σ fp _ r (Post.bind h orL orLF fun d env1 h1 F1 H1 fp1 v fr e1 r1 rep1 k1' => ?_)
  have h1' := Post.seq (a := d) e1 h1
  refine ha Z F1 H1 env1 σ fp1 _ r1 (Post.bind (ε := ε2) h1' id id fun ds env2 h2 F2 H2 fp2 vs frs e2 r2 rep2 k2' => ?_)
  have hk := KOk.ev e2 rep1 hp k1'
  refine h2 F2 H2 fp2 (v :: vs) (fr :: frs) (e1.trans e2) r2 ⟨hk.1, rep2⟩ ⟨hk.2, fun ko i gg hi hg a h3 h4 => ?_, k2'.rel e1⟩
  subst ko
  have q := KOks.get k2' hi hg a h4
  have nd := Rep.dom d v fr rep1 a h3
  rcases q.1 with z | z
  · exact nd z
  · exact (k1' a h3).2.1 z
end
end DL
namespace DL
open PySem PySem.Spec L2
def killS (i : Nat) : Sl → Sl
  | .bor (some j) d => if j = i then .dead else .bor (some j) d
  | s => s
def kill (i : Nat) (env : Evn) : Evn := env.map (killS i)
def putE (i : Nat) (s : Sl) (env : Evn) : Evn := (kill i env).set i s
def fset (fp : Fp) (i : Nat) (f : List Addr) : Fp := fun j => if j = i then f else fp j
theorem fset_same {fp : Fp} {i : Nat} {f : List Addr} : fset fp i f i = f := if_pos rfl
theorem fset_ne {fp : Fp} {i j : Nat} {f : List Addr} (h : j ≠ i) : fset fp i f j = fp j := if_neg h
section
variable {K : PySem.W.Frag} {W : WX} {ε ε1 ε2 : Bool} {F H F1 H1 F2 H2 F' H' F0 H0 : Hp} {env env1 env2 env' env0 : Evn} {fp fp1 fp2 fp' fp0 : Fp} {Z : Zst} {σ σ' : L2.St} {k k1 k2 : Kd} {ks : List Kd}
theorem kill_length (i : Nat) (env : Evn) : (kill i env).length = env.length := List.length_map ..
theorem putE_length (i : Nat) (s : Sl) (env : Evn) : (putE i s env).length = env.length := by unfold putE; rw [List.length_set, kill_length]
theorem putE_same {i : Nat} {s : Sl} (h : i < env.length) : (putE i s env)[i]? = some s := by
  unfold putE
  rw [List.getElem?_set_self (by rw [kill_length]; exact h)]
theorem putE_ne {i j : Nat} {s : Sl} (h : j ≠ i) : (putE i s env)[j]? = (env[j]?).map (killS i) := by
  unfold putE kill
  rw [List.getElem?_set_ne (Ne.symm h), List.getElem?_map]
theorem isOwn_put {i j : Nat} {s : Sl} (h : j ≠ i) : isOwn (putE i s env) j ↔ isOwn env j := by
  unfold isOwn
  rw [putE_ne h]
  constructor
  · rintro ⟨d, e⟩
    cases q : env[j]? with
    | none => rw [q] at e; cases e
    | some t =>
      rw [q] at e
      cases t with
      | own d' => exact ⟨d', rfl⟩
      | dead => cases e
      | bor r d' =>
        cases r with
        | none => cases e
        | some m =>
          simp only [Option.map_some, killS] at e
          split at e <;> cases e
  · rintro ⟨d, e⟩
    exact ⟨d, by rw [e]; rfl⟩
theorem isLk_put {i j : Nat} {s : Sl} (h : j ≠ i) : isLk (putE i s env) j ↔ isLk env j := by
  unfold isLk
  rw [putE_ne h]
  constructor
  · rintro ⟨d, e⟩
    cases q : env[j]? with
    | none => rw [q] at e; cases e
    | some t =>
      rw [q] at e
      cases t with
      | own d' => cases e
      | dead => cases e
      | bor r d' =>
        cases r with
        | none => cases e
        | some m =>
          simp only [Option.map_some, killS] at e
          split at e
          · cases e
          · cases e
            exact ⟨_, rfl⟩
  · rintro ⟨d, e⟩
    exact ⟨d, by rw [e]; simp only [Option.map_some, killS]; rw [if_neg h]⟩
theorem hold_put {i j : Nat} {s : Sl} (h : j ≠ i) : hold (putE i s env) j ↔ hold env j := by
  unfold hold
  rw [isOwn_put h, isLk_put h]
def SlotN (K : PySem.W.Frag) (Z : Zst) (F H : Hp) (env : Evn) (σ' : L2.St) (fp : Fp) (i : Nat) (f' : List Addr) : Sl → Prop
  | .dead => True
  | .own d => (∃ v, σ'[i]? = some (some v) ∧ Rep K F H d v f') ∧ (∀ j, j ≠ i → hold env j → ∀ a ∈ f', a ∉ fp j) ∧ ∀ a ∈ f', (¬ Z.B a ∧ F a = none) ∧ NF H a
  | .bor none d => ∃ v, σ'[i]? = some (some v) ∧ Rep K F H d v f' ∧ ∀ a ∈ f', Z.B a
  | .bor (some j) d => j ≠ i ∧ hold env j ∧ ∃ v, σ'[i]? = some (some v) ∧ Rep K F H d v f' ∧ ∀ a ∈ f', a ∈ fp j
theorem R.put (r : R K Z F H env σ fp) {i : Nat} (hi : i < env.length) {s' : Sl} {f' : List Addr} (hσ : ∀ j, j ≠ i → σ'[j]? = σ[j]?) (hl : σ'.length = σ.length) (hpin : ∀ p ∈ Z.pins, σ'[p.1]? = some p.2)
    (hn : SlotN K Z F H env σ' fp i f' s') : R K Z F H (putE i s' env) σ' (fset fp i f') := by
  have hown : isOwn (putE i s' env) i → ∃ d, s' = .own d := fun ⟨d, e⟩ => by
    rw [putE_same hi] at e
    cases e
    exact ⟨d, rfl⟩
  have hlk : ¬ isLk (putE i s' env) i := fun ⟨d, e⟩ => by
    rw [putE_same hi] at e
    cases e
    exact hn.1 rfl
  have hh : hold (putE i s' env) i → ∃ d, s' = .own d := fun h => by
    rcases h with h | h
    · exact hown h
    · exact absurd h hlk
  refine ⟨r.sub, fun j => ?_, fun j l hjl h1 h2 a ha => ?_, fun j h1 a ha => ?_, fun j h1 a ha => ?_, r.domB, hpin, r.gh, by rw [hl, putE_length]; exact r.len, fun j h1 a ha => ?_⟩
  · by_cases hj : j = i
    · subst hj
      unfold SlotR
      rw [putE_same hi, fset_same]
      cases s' with
      | dead => trivial
      | own d => exact hn.1
      | bor m d =>
        cases m with
        | none => exact hn
        | some m =>
          obtain ⟨h1, h2, v, h3, h4, h5⟩ := hn
          exact ⟨v, h3, h4, (hold_put h1).mpr h2, by rw [fset_ne h1]; exact h5⟩
    · have s := r.slot j
      unfold SlotR at s ⊢
      rw [putE_ne hj, hσ j hj, fset_ne hj]
      cases q : env[j]? with
      | none => trivial
      | some t =>
        rw [q] at s
        cases t with
        | dead => trivial
        | own d => exact s
        | bor m d =>
          cases m with
          | none => exact s
          | some m =>
            simp only [Option.map_some, killS]
            by_cases hm : m = i
            · rw [if_pos hm]; trivial
            · rw [if_neg hm]
              obtain ⟨v, h1, h2, h3, h4⟩ := s
              exact ⟨v, h1, h2, (hold_put hm).mpr h3, by rw [fset_ne hm]; exact h4⟩
  · by_cases hj : j = i
    · subst hj
      obtain ⟨d, rfl⟩ := hh h1
      rw [fset_same] at ha
      rw [fset_ne (Ne.symm hjl)]
      exact hn.2.1 l (Ne.symm hjl) ((hold_put (Ne.symm hjl)).mp h2) a ha
    · rw [fset_ne hj] at ha
      by_cases hl' : l = i
      · subst hl'
        obtain ⟨d, rfl⟩ := hh h2
        rw [fset_same]
        exact fun z => hn.2.1 j hj ((hold_put hj).mp h1) a z ha
      · rw [fset_ne hl']
        exact r.sep j l hjl ((hold_put hj).mp h1) ((hold_put hl').mp h2) a ha
  · by_cases hj : j = i
    · subst hj
      obtain ⟨d, rfl⟩ := hh h1
      rw [fset_same] at ha
      exact (hn.2.2 a ha).1.1
    · rw [fset_ne hj] at ha
      exact r.sepB j ((hold_put hj).mp h1) a ha
  · by_cases hj : j = i
    · subst hj
      obtain ⟨d, rfl⟩ := hh h1
      rw [fset_same] at ha
      exact (hn.2.2 a ha).1.2
    · rw [fset_ne hj] at ha
      exact r.hF j ((hold_put hj).mp h1) a ha
  · by_cases hj : j = i
    · subst hj
      obtain ⟨d, rfl⟩ := hown h1
      rw [fset_same] at ha
      exact (hn.2.2 a ha).2
    · rw [fset_ne hj] at ha
      exact r.nf j ((isOwn_put hj).mp h1) a ha
theorem killS_lk {env : Evn} {s' : Sl} {i j : Nat} (hj : j ≠ i) (h : isLk (putE i s' env) j) : (putE i s' env)[j]? = env[j]? := by
  obtain ⟨d, hd⟩ := (isLk_put hj).mp h
  rw [putE_ne hj, hd]
  simp only [Option.map_some, killS]
  rw [if_neg hj]
theorem Ev.put (e : Ev ε F0 H0 env0 fp0 F H env fp) {i : Nat} (hi : i < env.length) {s' : Sl} {f' : List Addr} (hs : ∀ d, s' = .own d → ∀ a ∈ f', H0 a = none ∨ OwnA env0 fp0 a) (hb : ∀ d, s' ≠ .bor (some i) d) :
    Ev true F0 H0 env0 fp0 F H (putE i s' env) (fset fp i f') where
  keep := fun a o h n => e.keep a o h fun _ => n rfl
  sub := e.sub
  new := fun a h n => (e.new a h n).imp id fun z => ⟨rfl, z.2⟩
  own := fun a ⟨j, h, ha⟩ => by
    by_cases hj : j = i
    · subst hj
      obtain ⟨d, q⟩ := h
      rw [putE_same hi] at q
      cases q
      rw [fset_same] at ha
      exact hs d rfl a ha
    · rw [fset_ne hj] at ha
      exact e.own a ⟨j, (isOwn_put hj).mp h, ha⟩
  lks := fun j h => by
    by_cases hj : j = i
    · subst hj
      obtain ⟨d, q⟩ := h
      rw [putE_same hi] at q
      cases q
      exact absurd rfl (hb d)
    · obtain ⟨a1, a2⟩ := e.lks j ((isLk_put hj).mp h)
      rw [killS_lk hj h, fset_ne hj]
      exact ⟨a1, a2⟩
  nofz := e.nofz
  dom := e.dom
  pure := fun z => by cases z
theorem R.apart (r0 : R K Z F0 H0 env0 σ fp0) (e : Ev ε F0 H0 env0 fp0 F H env fp) {fr : List Addr} (x : KOk .own H0 env0 fp0 F env fp fr) : (∀ j, hold env j → ∀ a ∈ fr, a ∉ fp j) ∧ ∀ a ∈ fr, (¬ Z.B a ∧ F a = none) ∧ NF H a := by
  refine ⟨fun j hj a ha hm => ?_, fun a ha => ⟨⟨fun hB => ?_, (x a ha).2.2⟩, fun o u ho => ?_⟩⟩
  · obtain ⟨x1, x2, x3⟩ := x a ha
    rcases hj with hj | hj
    · exact x2 ⟨j, hj, hm⟩
    · have l0 := e.lk a ⟨j, hj, hm⟩
      rcases x1 with z | z
      · obtain ⟨i, hi, hm'⟩ := l0
        exact r0.hold_dom (.inr hi) hm' z
      · exact r0.own_lk z l0
  · rcases (x a ha).1 with z | z
    · exact r0.domB a hB z
    · exact r0.own_B z hB
  · have h0 := e.nofz a o u ho
    rcases (x a ha).1 with z | z
    · rw [z] at h0
      cases h0
    · exact r0.own_nf z o u h0
end
structure DE (X : Cx) (W : WX) (ε : Bool) (k : Kd) (e : Expr) (f : FE) : Prop where
  ex : ∃ t, PE X e t ∧ ESim X.K W ε k t f
structure DT (X : Cx) (W : WX) (ε : Bool) (e : Expr) (f : FT) : Prop where
  ex : ∃ t, PT X e t ∧ TSim X.K W ε t f
structure DA (X : Cx) (W : WX) (ε : Bool) (ks : List Kd) (es : List Expr) (f : FA) : Prop where
  ex : ∃ t, PA X es t ∧ ASim X.K W ε ks t f
section
variable {X : Cx} {W : WX} {ε ε1 ε2 : Bool} {k k1 k2 : Kd} {ks : List Kd} {e e1 e2 : Expr} {es : List Expr} {f f1 f2 : FE} {g : FA}
theorem da_nil : DA X W false [] [] aNil := ⟨_, pa_nil, asim_nil⟩
theorem da_cons (h1 : DE X W ε1 k1 e f) (h2 : DA X W ε2 ks es g) (hp : ε2 = true → ∀ j, k1 ≠ .bor j := by first | exact fun h => (nomatch h) | exact fun _ j h => (nomatch h))
    (hs : starEach (e :: es) X.env = (false, eval e X.env) :: starEach es X.env := by rfl) : DA X W (ε1 || ε2) (k1 :: ks) (e :: es) (aCons f g) := by
  obtain ⟨t1, p1, s1⟩ := h1.ex
  obtain ⟨t2, p2, s2⟩ := h2.ex
  exact ⟨_, pa_cons p1 p2 hs, asim_cons s1 s2 hp⟩
def fC (d : D) : FE := fun env => .ok d env
def plainV : D → Option V
  | .non => some .non
  | .bl b => some (.bl b)
  | .int i => some (.int i)
  | .str x => some (.str x)
  | .ob a => some (.ref a)
  | .ty n => some (.ty n)
  | _ => none
theorem Rep.plain {K : PySem.W.Frag} {F H : Hp} {d : D} {v : V} (h : plainV d = some v) : Rep K F H d v [] := by
  cases d <;> simp only [plainV, Option.some.injEq, reduceCtorEq] at h <;> subst h <;> exact ⟨rfl, rfl⟩
theorem esim_c {K : PySem.W.Frag} {d : D} {v : V} (h : plainV d = some v) : ESim K W false .frz (tC v) (fC d) :=
  fun Z F H env σ fp Q r hq => hq F H fp v [] (Ev.refl (Z := Z) _ rfl) r (.plain h) rfl
theorem de_int {i j pos} : DE X W false .frz (.Constant (.int i) j pos) (fC (.int i)) := ⟨_, pe_int, esim_c rfl⟩
theorem de_bl {b j pos} : DE X W false .frz (.Constant (.bool b) j pos) (fC (.bl b)) := ⟨_, pe_bl, esim_c rfl⟩
theorem de_non {j pos} : DE X W false .frz (.Constant .none j pos) (fC .non) := ⟨_, pe_non, esim_c rfl⟩
theorem de_str {x j pos} : DE X W false .frz (.Constant (.str x) j pos) (fC (.str x)) := ⟨_, pe_str, esim_c rfl⟩
def getS (env : Evn) (i : Nat) : Option D := match env[i]? with
  | some (.own d) => some d
  | some (.bor _ d) => some d
  | _ => none
def optR {α : Type} (o : Option α) (env : Evn) : Rs α := match o with
  | some a => .ok a env
  | none => .stuck
@[simp] theorem optR_some {α : Type} (a : α) (env : Evn) : optR (some a) env = .ok a env := (rfl)
@[simp] theorem optR_none {α : Type} (env : Evn) : (optR none env : Rs α) = .stuck := (rfl)
def fVar (i : Nat) : FE := fun env => optR (getS env i) env
theorem R.getS {K : PySem.W.Frag} {Z : Zst} {F H : Hp} {env : Evn} {σ : L2.St} {fp : Fp} (r : R K Z F H env σ fp) {i : Nat} {d : D} (h : DL.getS env i = some d) : ∃ v, σ[i]? = some (some v) ∧ Rep K F H d v (fp i) ∧ live env i := by
  have s := r.slot i
  unfold SlotR at s
  unfold DL.getS at h
  cases q : env[i]? with
  | none => rw [q] at h; cases h
  | some t =>
    rw [q] at s h
    cases t with
    | dead => cases h
    | own d' =>
      cases h
      obtain ⟨v, h1, h2⟩ := s
      exact ⟨v, h1, h2, _, q, fun z => by cases z⟩
    | bor m d' =>
      cases h
      cases m with
      | none =>
        obtain ⟨v, h1, h2, _⟩ := s
        exact ⟨v, h1, h2, _, q, fun z => by cases z⟩
      | some m =>
        obtain ⟨v, h1, h2, _⟩ := s
        exact ⟨v, h1, h2, _, q, fun z => by cases z⟩
theorem esim_var {K : PySem.W.Frag} {i : Nat} : ESim K W false (.bor i) (tVar i) (fVar i) := fun Z F H env σ fp Q r hq => by
  unfold fVar at hq
  cases q : DL.getS env i with
  | none => rw [q] at hq; exact hq.elim
  | some d =>
    rw [q] at hq
    obtain ⟨v, h1, h2, h3⟩ := r.getS q
    exact ⟨v, h1, hq F H fp v (fp i) (Ev.refl (Z := Z) _ rfl) r h2 ⟨h3, fun a h => h⟩⟩
theorem de_var (i : Nat) {x : Str} {pos : Pos} (hN : X.N[i]? = some x := by rfl) (hv : Vis X.env.scope x := by first | exact Or.inl rfl | exact Or.inr (Or.inl rfl) | exact Or.inr (Or.inr rfl)) (hd : (x == ("__debug__" : Str)) = false := by decide)
    (hcd : (x == ("__classdict__" : Str)) = false := by decide) : DE X W false (.bor i) (.Name x pos) (fVar i) := ⟨_, pe_var hN hv hd hcd, esim_var⟩
def fChk (f : FE) : FE := fun env => (f env).bind fun d e => if d.frz = true then .ok d e else .stuck
theorem esim_chk {K : PySem.W.Frag} {t : TE} (h : ESim K W ε k t f) : ESim K W ε .frz t (fChk f) := fun Z F H env σ fp Q r hq => by
  refine h Z F H env σ fp Q r (Post.bind hq id id fun d e1 h1 F' H' fp' v fr ev r' rep _ => ?_)
  by_cases z : d.frz = true
  · rw [if_pos z] at h1
    have e := Rep.frz_nil d v fr z rep
    subst e
    exact h1 F' H' fp' v [] ev r' rep rfl
  · rw [if_neg z] at h1
    exact h1.elim
theorem de_chk (h : DE X W ε k e f) : DE X W ε .frz e (fChk f) := let ⟨_, p, s⟩ := h.ex; ⟨_, p, esim_chk s⟩
def fMv (i : Nat) : FE := fun env => match env[i]? with
  | some (.own d) => .ok d (putE i .dead env)
  | some (.bor _ d) => if d.frz = true then .ok d env else .stuck
  | _ => .stuck
theorem esim_mv {K : PySem.W.Frag} {i : Nat} : ESim K W true .own (tVar i) (fMv i) := fun Z F H env σ fp Q r hq => by
  have s := r.slot i
  unfold SlotR at s
  unfold fMv at hq
  cases q : env[i]? with
  | none => rw [q] at hq; exact hq.elim
  | some t =>
    rw [q] at s hq
    have hi : i < env.length := (List.getElem?_eq_some_iff.mp q).1
    cases t with
    | dead => exact hq.elim
    | own d =>
      obtain ⟨v, h1, h2⟩ := s
      have ho : isOwn env i := ⟨d, q⟩
      refine ⟨v, h1, hq F H (fset fp i []) v (fp i) ((Ev.refl (Z := Z) false rfl).put hi (fun d h => by cases h) fun d h => by cases h) (r.put hi (fun _ _ => rfl) rfl r.pin trivial) h2 fun a ha => ⟨.inr ⟨i, ho, ha⟩, fun ⟨j, hj, hm⟩ => ?_, r.hF i (.inl ho) a ha⟩⟩
      by_cases hji : j = i
      · subst hji
        rw [fset_same] at hm
        cases hm
      · rw [fset_ne hji] at hm
        exact r.sep i j (Ne.symm hji) (.inl ho) (.inl ((isOwn_put hji).mp hj)) a ha hm
    | bor m d =>
      have key : ∃ v, σ[i]? = some (some v) ∧ Rep K F H d v (fp i) := by
        cases m with
        | none =>
          obtain ⟨v, h1, h2, _⟩ := s
          exact ⟨v, h1, h2⟩
        | some m =>
          obtain ⟨v, h1, h2, _⟩ := s
          exact ⟨v, h1, h2⟩
      obtain ⟨v, h1, h2⟩ := key
      by_cases z : d.frz = true
      · simp only [z] at hq
        have e := Rep.frz_nil d v _ z h2
        rw [e] at h2
        exact ⟨v, h1, hq F H fp v [] (Ev.refl (Z := Z) _ rfl) r h2 fun a ha => by cases ha⟩
      · simp only [z] at hq
        exact hq.elim
theorem de_mv (i : Nat) {x : Str} {pos : Pos} (hN : X.N[i]? = some x := by rfl) (hv : Vis X.env.scope x := by first | exact Or.inl rfl | exact Or.inr (Or.inl rfl) | exact Or.inr (Or.inr rfl)) (hd : (x == ("__debug__" : Str)) = false := by decide)
    (hcd : (x == ("__classdict__" : Str)) = false := by decide) : DE X W true .own (.Name x pos) (fMv i) := ⟨_, pe_var hN hv hd hcd, esim_mv⟩
end
end DL
namespace DL
open PySem PySem.Spec L2
def OpOk (K : PySem.W.Frag) (r : List V → Hp → VK → Prop) (g : List D → Option D) : Prop :=
  ∀ (F H : Hp) (ds : List D) (vs : List V) (frs : List (List Addr)) (d : D) (Q : VK), (∀ a u, F a = some u → Has H a u) → RepA K F H ds vs frs → g ds = some d →
    (∀ F' H' v fr, Grow F H F' H' → Rep K F' H' d v fr → (∀ a ∈ fr, H a = none ∧ F' a = none) → Q v H') → r vs H Q
def fOp (g : List D → Option D) (fa : FA) : FE := fun env => (fa env).bind fun ds e => optR (g ds) e
section
variable {K : PySem.W.Frag} {W : WX} {ε ε1 ε2 : Bool} {k k1 k2 : Kd} {ks : List Kd}
theorem esim_op {ta : TA} {fa : FA} {t' : TE} {r : List V → Hp → VK → Prop} {g : List D → Option D} (ha : ASim K W ε ks ta fa) (ho : OpOk K r g) (ht : ∀ σ H Q, ta σ H (fun vs H' => r vs H' Q) → t' σ H Q) : ESim K W ε .own t' (fOp g fa) := by
  intro Z F H env σ fp Q r0 hq
  refine ht σ H Q (ha Z F H env σ fp _ r0 (Post.bind hq id id fun ds e1 h1 F1 H1 fp1 vs frs ev r1 rep ko => ?_))
  cases q : g ds with
  | none => rw [q] at h1; exact h1.elim
  | some d =>
    rw [q] at h1
    refine ho F1 H1 ds vs frs d Q r1.sub rep q fun F' H' v fr gr rp fresh => ?_
    have ev2 : Ev ε F H env fp F' H' e1 fp1 := (ev.trans (gr.ev (ε := ε))).mono (by cases ε <;> simp) (by cases ε <;> simp)
    refine h1 F' H' fp1 v fr ev2 (r1.grow gr) rp fun a ha => ⟨.inl (ev.nd (fresh a ha).1), fun z => r1.own_dom z (fresh a ha).1, (fresh a ha).2⟩
def l1 (r : V → Hp → VK → Prop) : List V → Hp → VK → Prop := fun vs H Q => match vs with
  | [x] => r x H Q
  | _ => False
def l2 (r : R2) : List V → Hp → VK → Prop := fun vs H Q => match vs with
  | [x, y] => r x y H Q
  | _ => False
theorem OpOk.or {r r' : List V → Hp → VK → Prop} {g : List D → Option D} (h : ∀ ds, (∃ g1, OpOk K r g1 ∧ g ds = g1 ds) ∨ ∃ g1, OpOk K r' g1 ∧ g ds = g1 ds) : OpOk K (fun vs H Q => r vs H Q ∨ r' vs H Q) g := by
  intro F H ds vs frs d Q hs rep e q
  rcases h ds with ⟨g1, h1, h2⟩ | ⟨g1, h1, h2⟩
  · exact .inl (h1 F H ds vs frs d Q hs rep (by rw [← h2]; exact e) q)
  · exact .inr (h1 F H ds vs frs d Q hs rep (by rw [← h2]; exact e) q)
theorem RepA.inv {F H : Hp} {x : D} {ds : List D} : ∀ {vs : List V} {frs : List (List Addr)}, RepA K F H (x :: ds) vs frs → ∃ v ws f fs, vs = v :: ws ∧ frs = f :: fs ∧ Rep K F H x v f ∧ RepA K F H ds ws fs
  | [], [], h => h.elim
  | [], _ :: _, h => h.elim
  | _ :: _, [], h => h.elim
  | v :: ws, f :: fs, h => ⟨v, ws, f, fs, rfl, rfl, h.1, h.2⟩
theorem RepA.inv0 {F H : Hp} : ∀ {vs : List V} {frs : List (List Addr)}, RepA K F H [] vs frs → vs = [] ∧ frs = []
  | [], [], h => ⟨rfl, rfl⟩
  | [], _ :: _, h => h.elim
  | _ :: _, [], h => h.elim
  | _ :: _, _ :: _, h => h.elim
theorem RepA.one {F H : Hp} {x : D} {vs : List V} {frs : List (List Addr)} (h : RepA K F H [x] vs frs) : ∃ v f, vs = [v] ∧ frs = [f] ∧ Rep K F H x v f := by
  obtain ⟨v, ws, f, fs, rfl, rfl, h1, h2⟩ := h.inv
  obtain ⟨rfl, rfl⟩ := h2.inv0
  exact ⟨v, f, rfl, rfl, h1⟩
theorem RepA.two {F H : Hp} {x y : D} {vs : List V} {frs : List (List Addr)} (h : RepA K F H [x, y] vs frs) : ∃ v w f g, vs = [v, w] ∧ frs = [f, g] ∧ Rep K F H x v f ∧ Rep K F H y w g := by
  obtain ⟨v, ws, f, fs, rfl, rfl, h1, h2⟩ := h.inv
  obtain ⟨w, g, rfl, rfl, h3⟩ := h2.one
  exact ⟨v, w, f, g, rfl, rfl, h1, h3⟩
theorem Rep.node {F H : Hp} {o : Bool} {s : Sh} {xs : List D} {v : V} {fr : List Addr} (h : Rep K F H (.node o s xs) v fr) (hs : ∀ a u, F a = some u → Has H a u) : ∃ a u vs fq, v = .ref a ∧ Has H a u ∧ IsN K s vs u ∧ RepL K F H xs vs fq ∧ ∀ b ∈ fq, b ∈ fr := by
  cases o with
  | true =>
    simp only [Rep] at h
    obtain ⟨a, u, vs, fq, rfl, rfl, h1, h2, h3, h4, h5⟩ := h
    exact ⟨a, u, vs, fq, rfl, h1, h2, h5, fun b hb => List.mem_cons_of_mem _ hb⟩
  | false =>
    simp only [Rep] at h
    obtain ⟨a, u, vs, rfl, rfl, h1, h2, h3⟩ := h
    exact ⟨a, u, vs, [], rfl, hs a u h1, h2, h3, fun b hb => by cases hb⟩
theorem Rep.lst {F H : Hp} {o : Bool} {xs : List D} {v : V} {fr : List Addr} (h : Rep K F H (.node o .lst xs) v fr) (hs : ∀ a u, F a = some u → Has H a u) : ∃ a vs fq, v = .ref a ∧ H a = some (.lst vs) ∧ RepL K F H xs vs fq ∧ ∀ b ∈ fq, b ∈ fr := by
  obtain ⟨a, u, vs, fq, rfl, h1, h2, h3, h4⟩ := h.node hs
  cases h2
  exact ⟨a, vs, fq, rfl, h1.ex rfl, h3, h4⟩
theorem Rep.tup {F H : Hp} {o : Bool} {xs : List D} {v : V} {fr : List Addr} (h : Rep K F H (.node o .tup xs) v fr) (hs : ∀ a u, F a = some u → Has H a u) : ∃ a vs fq, v = .ref a ∧ H a = some (.tup vs) ∧ RepL K F H xs vs fq ∧ ∀ b ∈ fq, b ∈ fr := by
  obtain ⟨a, u, vs, fq, rfl, h1, h2, h3, h4⟩ := h.node hs
  cases h2
  exact ⟨a, vs, fq, rfl, h1.ex rfl, h3, h4⟩
theorem RepL.nil0 {F H : Hp} {ds : List D} {vs : List V} {fr : List Addr} (h : RepL K F H ds vs fr) (z : frzL ds = true) : RepL K F H ds vs [] := by
  have e := RepL.frz_nil ds vs fr z h
  rw [← e]; exact h
theorem RepL.append {F H : Hp} : ∀ {ds es : List D} {vs ws : List V} {f g : List Addr}, RepL K F H ds vs f → RepL K F H es ws g → (∀ a ∈ f, a ∉ g) → RepL K F H (ds ++ es) (vs ++ ws) (f ++ g)
  | [], es, vs, ws, f, g, h, h', _ => by
    obtain ⟨rfl, rfl⟩ := h
    exact h'
  | d :: ds, es, vs, ws, f, g, h, h', n => by
    simp only [RepL] at h
    obtain ⟨v, us, f1, f2, rfl, rfl, h1, h2, h3⟩ := h
    rw [List.append_assoc]
    refine RepL.mk (fun a ha => ?_) h2 (RepL.append h3 h' fun a ha => n a (List.mem_append_right _ ha))
    intro hm
    rcases List.mem_append.mp hm with hm | hm
    · exact h1 a ha hm
    · exact n a (List.mem_append_left _ ha) hm
theorem RepL.append0 {F H : Hp} {ds es : List D} {vs ws : List V} (h : RepL K F H ds vs []) (h' : RepL K F H es ws []) : RepL K F H (ds ++ es) (vs ++ ws) [] := RepL.append h h' fun a ha => by cases ha
theorem new_lst {F H : Hp} {xs : List D} {vs : List V} {Q : VK} (hs : ∀ a u, F a = some u → Has H a u) (h : RepL K F H xs vs []) (q : ∀ F' H' v fr, Grow F H F' H' → Rep K F' H' (.node true .lst xs) v fr → (∀ a ∈ fr, H a = none ∧ F' a = none) → Q v H') :
    ∀ p, H p = none → Q (.ref p) (upd H p (.lst vs)) := fun p n => by
  have g := Grow.upd (o := .lst vs) hs n
  refine q F _ (.ref p) [p] g ?_ fun a ha => ?_
  · rw [Rep]
    exact ⟨p, .lst vs, vs, [], rfl, rfl, .inl upd_same, rfl, by simp, (fun z => by cases z), h.grow g⟩
  · have e : a = p := by simpa using ha
    subst e
    refine ⟨n, ?_⟩
    cases z : F a with
    | none => rfl
    | some u => exact absurd n (hs a u z).ne
theorem new_tup {F H : Hp} {xs : List D} {vs : List V} {Q : VK} (hs : ∀ a u, F a = some u → Has H a u) (h : RepL K F H xs vs []) (q : ∀ F' H' v fr, Grow F H F' H' → Rep K F' H' (.node false .tup xs) v fr → (∀ a ∈ fr, H a = none ∧ F' a = none) → Q v H') :
    ∀ p, H p = none → Q (.ref p) (upd H p (.tup vs)) := fun p n => by
  have g := Grow.updF (o := .tup vs) hs n
  refine q _ _ (.ref p) [] g ?_ fun a ha => by cases ha
  rw [Rep]
  exact ⟨p, .tup vs, vs, rfl, rfl, upd_same, rfl, h.grow g⟩
theorem same_q {F H : Hp} {d : D} {v : V} {Q : VK} (hs : ∀ a u, F a = some u → Has H a u) (h : Rep K F H d v []) (q : ∀ F' H' v fr, Grow F H F' H' → Rep K F' H' d v fr → (∀ a ∈ fr, H a = none ∧ F' a = none) → Q v H') : Q v H :=
  q F H v [] (.refl hs) h fun a ha => by cases ha
def oI2 (C : Int → Int → Prop) [∀ i j, Decidable (C i j)] (g : Int → Int → D) : List D → Option D
  | [.int i, .int j] => if C i j then some (g i j) else none
  | _ => none
def oI0 (g : Int → Int → D) : List D → Option D
  | [.int i, .int j] => some (g i j)
  | _ => none
theorem ok_I0 {g : Int → Int → V} {g' : Int → Int → D} (hg : ∀ i j, plainV (g' i j) = some (g i j)) : OpOk K (l2 (rI0 g)) (oI0 g') := by
  intro F H ds vs frs d Q hs rep e q
  unfold oI0 at e
  split at e
  · rename_i i j
    cases e
    obtain ⟨v, w, f, g1, rfl, rfl, h1, h2⟩ := rep.two
    obtain ⟨rfl, rfl⟩ := h1
    obtain ⟨rfl, rfl⟩ := h2
    exact ⟨i, j, rfl, rfl, same_q hs (.plain (hg i j)) q⟩
  · cases e
theorem ok_I2 {C : Int → Int → Prop} [∀ i j, Decidable (C i j)] {C' : Int → Int → Prop} {g : Int → Int → V} {g' : Int → Int → D} (hC : ∀ i j, C i j → C' i j) (hg : ∀ i j, plainV (g' i j) = some (g i j)) : OpOk K (l2 (rI C' g)) (oI2 C g') := by
  intro F H ds vs frs d Q hs rep e q
  unfold oI2 at e
  split at e
  · rename_i i j
    split at e
    · rename_i hc
      cases e
      obtain ⟨v, w, f, g1, rfl, rfl, h1, h2⟩ := rep.two
      obtain ⟨rfl, rfl⟩ := h1
      obtain ⟨rfl, rfl⟩ := h2
      exact ⟨i, j, rfl, rfl, hC i j hc, same_q hs (.plain (hg i j)) q⟩
    · cases e
  · cases e
end
section
variable {X : Cx} {W : WX} {ε ε1 ε2 : Bool} {k k1 k2 : Kd} {ks : List Kd} {a b : Expr} {es : List Expr} {fa fb : FE} {pos : Pos}
theorem da_two (ha : DE X W ε1 k1 a fa) (hb : DE X W ε2 k2 b fb) (hp : ε2 = true → ∀ j, k1 ≠ .bor j := by first | exact fun h => (nomatch h) | exact fun _ j h => (nomatch h)) :
    ∃ ta tb, PE X a ta ∧ PE X b tb ∧ ASim X.K W (ε1 || (ε2 || false)) [k1, k2] (tCons ta (tCons tb tNil)) (aCons fa (aCons fb aNil)) := by
  obtain ⟨ta, p1, s1⟩ := ha.ex
  obtain ⟨tb, p2, s2⟩ := hb.ex
  exact ⟨ta, tb, p1, p2, asim_cons s1 (asim_cons s2 asim_nil) (fun h => hp (by cases ε2 <;> simp_all))⟩
theorem de_bin {op : Operator} {r : R2} {g : List D → Option D} (hr : OpR X (binaryOp op) r) (ho : OpOk X.K (l2 r) g) (ha : DE X W ε1 k1 a fa) (hb : DE X W ε2 k2 b fb)
    (hp : ε2 = true → ∀ j, k1 ≠ .bor j := by first | exact fun h => (nomatch h) | exact fun _ j h => (nomatch h)) : DE X W (ε1 || (ε2 || false)) .own (.BinOp a op b pos) (fOp g (aCons fa (aCons fb aNil))) := by
  obtain ⟨ta, tb, p1, p2, s⟩ := da_two ha hb hp
  exact ⟨_, pe_op hr p1 p2, esim_op s ho fun σ H Q h => h⟩
theorem de_cmp {op : CmpOp} {r : R2} {g : List D → Option D} (hr : OpR X (compareOp op) r) (ho : OpOk X.K (l2 r) g) (ha : DE X W ε1 k1 a fa) (hb : DE X W ε2 k2 b fb)
    (hp : ε2 = true → ∀ j, k1 ≠ .bor j := by first | exact fun h => (nomatch h) | exact fun _ j h => (nomatch h)) (hm : behindInMarks op b = false := by first | exact nomark _ | rfl) : DE X W (ε1 || (ε2 || false)) .own (.Compare a [op] [b] pos) (fOp g (aCons fa (aCons fb aNil))) := by
  obtain ⟨ta, tb, p1, p2, s⟩ := da_two ha hb hp
  exact ⟨_, pe_cmpR hr p1 p2 hm, esim_op s ho fun σ H Q h => h⟩
theorem de_un {op : UnaryOp} {r : V → Hp → VK → Prop} {g : List D → Option D} (hr : UnR X (unaryOp op) r) (ho : OpOk X.K (l1 r) g) (ha : DE X W ε1 k1 a fa) : DE X W (ε1 || false) .own (.UnaryOp op a pos) (fOp g (aCons fa aNil)) := by
  obtain ⟨ta, p1, s1⟩ := ha.ex
  exact ⟨_, pe_un hr p1, esim_op (asim_cons s1 asim_nil) ho fun σ H Q h => h⟩
end
end DL
namespace DL
open PySem PySem.Spec L2
section
variable {K : PySem.W.Frag} {F H : Hp}
def oAdd : List D → Option D
  | [.int i, .int j] => some (.int (i + j))
  | [.str x, .str y] => if x.length + y.length ≤ sizeLine then some (.str (x ++ y)) else none
  | [.node _ .lst xs, .node _ .lst ys] => if frzL xs = true ∧ frzL ys = true ∧ xs.length + ys.length ≤ sizeLine then some (.node true .lst (xs ++ ys)) else none
  | [.node _ .tup xs, .node _ .tup ys] => if frzL xs = true ∧ frzL ys = true ∧ xs ≠ [] ∧ ys ≠ [] ∧ xs.length + ys.length ≤ sizeLine then some (.node false .tup (xs ++ ys)) else none
  | _ => none
def rAdd4 (K : PySem.W.Frag) : R2 := fun x y H Q => (rI0 (fun i j => .int (i + j)) x y H Q ∨ (∃ i j, x = .str i ∧ y = .str j ∧ i.length + j.length ≤ sizeLine ∧ Q (.str (i ++ j)) H)) ∨ (rCat x y H Q ∨ rCatT K x y H Q)
theorem op_add4 {X : Cx} : OpR X (binaryOp .Add) (rAdd4 X.K) := (op_add.or op_add_str).or (op_cat.or op_catT)
theorem ok_add : OpOk K (l2 (rAdd4 K)) oAdd := by
  intro F H ds vs frs d Q hs rep e q
  unfold oAdd at e
  split at e
  · cases e
    obtain ⟨v, w, f, g1, rfl, rfl, ⟨rfl, rfl⟩, ⟨rfl, rfl⟩⟩ := rep.two
    exact .inl (.inl ⟨_, _, rfl, rfl, same_q hs (.plain rfl) q⟩)
  · split at e
    · rename_i hz
      cases e
      obtain ⟨v, w, f, g1, rfl, rfl, ⟨rfl, rfl⟩, ⟨rfl, rfl⟩⟩ := rep.two
      exact .inl (.inr ⟨_, _, rfl, rfl, hz, same_q hs (.plain rfl) q⟩)
    · cases e
  · split at e
    · rename_i hz
      obtain ⟨z1, z2, z3⟩ := hz
      cases e
      obtain ⟨v, w, f, g1, rfl, rfl, h1, h2⟩ := rep.two
      obtain ⟨a, va, fa, rfl, ha, ra, _⟩ := h1.lst hs
      obtain ⟨b, vb, fb, rfl, hb, rb, _⟩ := h2.lst hs
      refine .inr (.inl ⟨a, b, va, vb, rfl, rfl, ha, hb, by rw [ra.len, rb.len]; exact z3, new_lst hs ((ra.nil0 z1).append0 (rb.nil0 z2)) q⟩)
    · cases e
  · split at e
    · rename_i hz
      obtain ⟨z1, z2, z3, z4, z5⟩ := hz
      cases e
      obtain ⟨v, w, f, g1, rfl, rfl, h1, h2⟩ := rep.two
      obtain ⟨a, va, fa, rfl, ha, ra, _⟩ := h1.tup hs
      obtain ⟨b, vb, fb, rfl, hb, rb, _⟩ := h2.tup hs
      refine .inr (.inr ⟨a, b, va, vb, rfl, rfl, .of ha, .of hb, fun z => ?_, by rw [ra.len, rb.len]; exact z5, fun z => ?_, fun _ => new_tup hs ((ra.nil0 z1).append0 (rb.nil0 z2)) q⟩)
      · have l := ra.len
        rw [z] at l
        exact z3 (List.length_eq_zero_iff.mp l.symm)
      · have l := rb.len
        rw [z] at l
        exact absurd (List.length_eq_zero_iff.mp l.symm) z4
    · cases e
  · cases e
def oSub : List D → Option D := oI0 fun i j => .int (i - j)
theorem ok_sub : OpOk K (l2 (rI0 fun i j => .int (i - j))) oSub := ok_I0 fun _ _ => rfl
def oMul : List D → Option D := oI2 (fun i j => (-(2 ^ 64) < i ∧ i < 2 ^ 64) ∨ (-(2 ^ 64) < j ∧ j < 2 ^ 64)) fun i j => .int (i * j)
theorem ok_mul : OpOk K (l2 (rI CMul fun i j => .int (i * j))) oMul := ok_I2 (fun _ _ h => h) fun _ _ => rfl
def oFdiv : List D → Option D := oI2 (fun i j => 0 < j ∧ (j < 1073741824 ∨ j.natAbs.log2 < 9000)) fun i j => .int (i / j)
theorem ok_fdiv : OpOk K (l2 (rI CDivW fun i j => .int (i / j))) oFdiv := ok_I2 (fun i j h => ⟨h.1, by
  rcases h.2 with z | z
  · by_cases hj : j.natAbs = 0
    · rw [hj]; decide
    · have l : j.natAbs.log2 < 30 := (Nat.log2_lt hj).mpr (by omega)
      omega
  · exact z⟩) fun _ _ => rfl
def oMod : List D → Option D := oI2 (fun _ j => 0 < j) fun i j => .int (i % j)
theorem ok_mod : OpOk K (l2 (rI (fun _ j => 0 < j) fun i j => .int (i % j))) oMod := ok_I2 (fun _ _ h => h) fun _ _ => rfl
def oPow : List D → Option D := oI2 (fun i j => 0 ≤ j ∧ j ≤ 1000000 ∧ i.natAbs < 2 ^ 64) fun i j => .int (i ^ j.toNat)
theorem ok_pow : OpOk K (l2 (rI CPow fun i j => .int (i ^ j.toNat))) oPow := ok_I2 (fun _ _ h => h) fun _ _ => rfl
def oLt : List D → Option D := oI0 fun i j => .bl (decide (i < j))
def oLe : List D → Option D := oI0 fun i j => .bl (decide (i ≤ j))
def oGt : List D → Option D := oI0 fun i j => .bl (decide (j < i))
def oGe : List D → Option D := oI0 fun i j => .bl (decide (j ≤ i))
theorem ok_lt : OpOk K (l2 (rI0 fun i j => .bl (decide (i < j)))) oLt := ok_I0 fun _ _ => rfl
theorem ok_le : OpOk K (l2 (rI0 fun i j => .bl (decide (i ≤ j)))) oLe := ok_I0 fun _ _ => rfl
theorem ok_gt : OpOk K (l2 (rI0 fun i j => .bl (decide (j < i)))) oGt := ok_I0 fun _ _ => rfl
theorem ok_ge : OpOk K (l2 (rI0 fun i j => .bl (decide (j ≤ i)))) oGe := ok_I0 fun _ _ => rfl
def oNeg : List D → Option D
  | [.int i] => some (.int (-i))
  | _ => none
theorem ok_neg : OpOk K (l1 (rU fun i => .int (-i))) oNeg := by
  intro F H ds vs frs d Q hs rep e q
  unfold oNeg at e
  split at e
  · cases e
    obtain ⟨v, f, rfl, rfl, rfl, rfl⟩ := rep.one
    exact ⟨_, rfl, same_q hs (.plain rfl) q⟩
  · cases e
mutual
def toPD : D → Option PyData
  | .non => some .none
  | .bl b => some (.bool b)
  | .int i => some (.int i)
  | .str x => some (.str x)
  | .node _ .lst xs => (toPDL xs).map .list
  | .node _ .tup xs => (toPDL xs).map .tuple
  | .node _ (.dic _) _ => none
  | .node _ (.dit _) _ => none
  | .node _ (.ins _ _) _ => none
  | .node _ (.exd _) _ => none
  | .ob _ => none
  | .ty _ => none
  | .scr _ => none
  | .tscr _ _ => none
  | .lam _ _ _ => none
def toPDL : List D → Option (List PyData)
  | [] => some []
  | d :: ds => (toPD d).bind fun p => (toPDL ds).map (p :: ·)
end
mutual
theorem dp_of (hs : ∀ a u, F a = some u → Has H a u) : ∀ (d : D) (v : V) (fr : List Addr) (p : PyData), toPD d = some p → Rep K F H d v fr → Dp K H v p
  | .non, v, fr, p, e, h => by cases e; cases h.1; exact .non
  | .bl b, v, fr, p, e, h => by cases e; cases h.1; exact .bl b
  | .int i, v, fr, p, e, h => by cases e; cases h.1; exact .int i
  | .str x, v, fr, p, e, h => by cases e; cases h.1; exact .str x
  | .node o .lst xs, v, fr, p, e, h => by
    obtain ⟨a, vs, fq, rfl, ha, ra, _⟩ := h.lst hs
    simp only [toPD, Option.map_eq_some_iff] at e
    obtain ⟨ps, e1, rfl⟩ := e
    exact .lst (.of ha) (dpL_of hs xs vs fq ps e1 ra)
  | .node o .tup xs, v, fr, p, e, h => by
    obtain ⟨a, vs, fq, rfl, ha, ra, _⟩ := h.tup hs
    simp only [toPD, Option.map_eq_some_iff] at e
    obtain ⟨ps, e1, rfl⟩ := e
    exact .tup (.of ha) (dpL_of hs xs vs fq ps e1 ra)
  | .node _ (.dic _) _, v, fr, p, e, h => by cases e
  | .node _ (.dit _) _, v, fr, p, e, h => by cases e
  | .node _ (.ins _ _) _, v, fr, p, e, h => by cases e
  | .node _ (.exd _) _, v, fr, p, e, h => by cases e
  | .ob _, v, fr, p, e, h => by cases e
  | .ty _, v, fr, p, e, h => by cases e
  | .scr _, v, fr, p, e, h => by cases e
  | .tscr _ _, v, fr, p, e, h => by cases e
  | .lam _ _ _, v, fr, p, e, h => by cases e
theorem dpL_of (hs : ∀ a u, F a = some u → Has H a u) : ∀ (ds : List D) (vs : List V) (fr : List Addr) (ps : List PyData), toPDL ds = some ps → RepL K F H ds vs fr → DpAll K H vs ps
  | [], vs, fr, ps, e, h => by cases e; cases h.1; exact .nil
  | d :: ds, vs, fr, ps, e, h => by
    simp only [RepL] at h
    obtain ⟨v, ws, f1, f2, rfl, rfl, h1, h2, h3⟩ := h
    simp only [toPDL, Option.bind_eq_some_iff, Option.map_eq_some_iff] at e
    obtain ⟨p, e1, ps', e2, rfl⟩ := e
    exact .cons (dp_of hs d v f1 p e1 h2) (dpL_of hs ds ws f2 ps' e2 h3)
end
def eqD (x y : D) : Option Bool := (toPD x).bind fun p => (toPD y).bind fun q => if SeqAt.shaped p = true ∧ SeqAt.shaped q = true then some (PyData.eqv p q) else none
def oEq : List D → Option D
  | [x, y] => (eqD x y).map .bl
  | _ => none
def oNe : List D → Option D
  | [x, y] => (eqD x y).map fun b => .bl (!b)
  | _ => none
theorem eqD_some {x y : D} {b : Bool} (h : eqD x y = some b) : ∃ p q, toPD x = some p ∧ toPD y = some q ∧ SeqAt.shaped p = true ∧ SeqAt.shaped q = true ∧ b = PyData.eqv p q := by
  unfold eqD at h
  simp only [Option.bind_eq_some_iff] at h
  obtain ⟨p, h1, q, h2, h3⟩ := h
  split at h3
  · rename_i z
    cases h3
    exact ⟨p, q, h1, h2, z.1, z.2, rfl⟩
  · cases h3
theorem ok_eq : OpOk K (l2 (rEqD K)) oEq := by
  intro F H ds vs frs d Q hs rep e q
  unfold oEq at e
  split at e
  · simp only [Option.map_eq_some_iff] at e
    obtain ⟨b, e1, rfl⟩ := e
    obtain ⟨p, p', e2, e3, s1, s2, rfl⟩ := eqD_some e1
    obtain ⟨v, w, f, g1, rfl, rfl, h1, h2⟩ := rep.two
    exact ⟨p, p', dp_of hs _ _ _ _ e2 h1, dp_of hs _ _ _ _ e3 h2, s1, s2, same_q hs (.plain rfl) q⟩
  · cases e
theorem ok_ne : OpOk K (l2 (rNeD K)) oNe := by
  intro F H ds vs frs d Q hs rep e q
  unfold oNe at e
  split at e
  · simp only [Option.map_eq_some_iff] at e
    obtain ⟨b, e1, rfl⟩ := e
    obtain ⟨p, p', e2, e3, s1, s2, rfl⟩ := eqD_some e1
    obtain ⟨v, w, f, g1, rfl, rfl, h1, h2⟩ := rep.two
    exact ⟨p, p', dp_of hs _ _ _ _ e2 h1, dp_of hs _ _ _ _ e3 h2, s1, s2, same_q hs (.plain rfl) q⟩
  · cases e
def isNonD : D → Bool
  | .non => true
  | _ => false
theorem Rep.isNon {d : D} {v : V} {fr : List Addr} (h : Rep K F H d v fr) (hs : ∀ a u, F a = some u → Has H a u) : decide (v = .non) = isNonD d := by
  cases d with
  | non => cases h.1; rfl
  | bl b => cases h.1; rfl
  | int i => cases h.1; rfl
  | str x => cases h.1; rfl
  | ob a => cases h.1; rfl
  | ty n => cases h.1; rfl
  | scr n => obtain ⟨a, rfl, _⟩ := h; rfl
  | tscr n T => obtain ⟨⟨a, rfl, _⟩, _⟩ := h; rfl
  | lam f c q => cases h.1; rfl
  | node o s xs =>
    obtain ⟨a, u, vs, fq, rfl, _⟩ := h.node hs
    rfl
def oIsN : List D → Option D
  | [x, .non] => some (.bl (isNonD x))
  | _ => none
def oNotN : List D → Option D
  | [x, .non] => some (.bl (!isNonD x))
  | _ => none
theorem ok_isN : OpOk K (l2 fun x y H Q => y = .non ∧ Q (.bl (decide (x = .non))) H) oIsN := by
  intro F H ds vs frs d Q hs rep e q
  unfold oIsN at e
  split at e
  · cases e
    obtain ⟨v, w, f, g1, rfl, rfl, h1, rfl, rfl⟩ := rep.two
    exact ⟨rfl, by rw [h1.isNon hs]; exact same_q hs (.plain rfl) q⟩
  · cases e
def scV : D → Option V
  | .non => some .non
  | .bl b => some (.bl b)
  | .int i => some (.int i)
  | .str x => some (.str x)
  | _ => none
def scVL : List D → Option (List V)
  | [] => some []
  | d :: ds => (scV d).bind fun v => (scVL ds).map (v :: ·)
theorem scV_rep {d : D} {v w : V} {fr : List Addr} (e : scV d = some v) (h : Rep K F H d w fr) : w = v ∧ flatV v = true := by
  cases d <;> simp only [scV, Option.some.injEq, reduceCtorEq] at e <;> subst e <;> exact ⟨h.1, rfl⟩
theorem scVL_rep : ∀ {ds : List D} {vs ws : List V} {fr : List Addr}, scVL ds = some vs → RepL K F H ds ws fr → ws = vs ∧ vs.all flatV = true
  | [], vs, ws, fr, e, h => by cases e; exact ⟨h.1, rfl⟩
  | d :: ds, vs, ws, fr, e, h => by
    simp only [RepL] at h
    obtain ⟨v, us, f1, f2, rfl, rfl, h1, h2, h3⟩ := h
    simp only [scVL, Option.bind_eq_some_iff, Option.map_eq_some_iff] at e
    obtain ⟨v', e1, vs', e2, rfl⟩ := e
    obtain ⟨rfl, z1⟩ := scV_rep e1 h2
    obtain ⟨rfl, z2⟩ := scVL_rep e2 h3
    exact ⟨rfl, by rw [List.all_cons, z1, z2]; rfl⟩
def inD (x : D) (ys : List D) : Option Bool := (scV x).bind fun v => (scVL ys).map fun vs => inV v vs
def oIn : List D → Option D
  | [x, .node _ .lst ys] => (inD x ys).map .bl
  | [x, .node _ .tup ys] => (inD x ys).map .bl
  | _ => none
def oNotIn : List D → Option D
  | [x, .node _ .lst ys] => (inD x ys).map fun b => .bl (!b)
  | [x, .node _ .tup ys] => (inD x ys).map fun b => .bl (!b)
  | _ => none
theorem inD_some {x : D} {ys : List D} {b : Bool} (e : inD x ys = some b) : ∃ v vs, scV x = some v ∧ scVL ys = some vs ∧ b = inV v vs := by
  unfold inD at e
  simp only [Option.bind_eq_some_iff, Option.map_eq_some_iff] at e
  obtain ⟨v, e1, vs, e2, rfl⟩ := e
  exact ⟨v, vs, e1, e2, rfl⟩
theorem ok_in : OpOk K (l2 (rIn K false)) oIn := by
  intro F H ds vs frs d Q hs rep e q
  unfold oIn at e
  split at e
  · simp only [Option.map_eq_some_iff] at e
    obtain ⟨b, e1, rfl⟩ := e
    obtain ⟨v, us, e2, e3, rfl⟩ := inD_some e1
    obtain ⟨v', w, f, g1, rfl, rfl, h1, h2⟩ := rep.two
    obtain ⟨a, va, fa, rfl, ha, ra, _⟩ := h2.lst hs
    obtain ⟨rfl, z1⟩ := scV_rep e2 h1
    obtain ⟨rfl, z2⟩ := scVL_rep e3 ra
    exact ⟨a, _, rfl, .inl (.of ha), z1, z2, same_q hs (.plain rfl) q⟩
  · simp only [Option.map_eq_some_iff] at e
    obtain ⟨b, e1, rfl⟩ := e
    obtain ⟨v, us, e2, e3, rfl⟩ := inD_some e1
    obtain ⟨v', w, f, g1, rfl, rfl, h1, h2⟩ := rep.two
    obtain ⟨a, va, fa, rfl, ha, ra, _⟩ := h2.tup hs
    obtain ⟨rfl, z1⟩ := scV_rep e2 h1
    obtain ⟨rfl, z2⟩ := scVL_rep e3 ra
    exact ⟨a, _, rfl, .inr (.of ha), z1, z2, same_q hs (.plain rfl) q⟩
  · cases e
theorem ok_notIn : OpOk K (l2 (rIn K true)) oNotIn := by
  intro F H ds vs frs d Q hs rep e q
  unfold oNotIn at e
  split at e
  · simp only [Option.map_eq_some_iff] at e
    obtain ⟨b, e1, rfl⟩ := e
    obtain ⟨v, us, e2, e3, rfl⟩ := inD_some e1
    obtain ⟨v', w, f, g1, rfl, rfl, h1, h2⟩ := rep.two
    obtain ⟨a, va, fa, rfl, ha, ra, _⟩ := h2.lst hs
    obtain ⟨rfl, z1⟩ := scV_rep e2 h1
    obtain ⟨rfl, z2⟩ := scVL_rep e3 ra
    exact ⟨a, _, rfl, .inl (.of ha), z1, z2, same_q hs (.plain rfl) q⟩
  · simp only [Option.map_eq_some_iff] at e
    obtain ⟨b, e1, rfl⟩ := e
    obtain ⟨v, us, e2, e3, rfl⟩ := inD_some e1
    obtain ⟨v', w, f, g1, rfl, rfl, h1, h2⟩ := rep.two
    obtain ⟨a, va, fa, rfl, ha, ra, _⟩ := h2.tup hs
    obtain ⟨rfl, z1⟩ := scV_rep e2 h1
    obtain ⟨rfl, z2⟩ := scVL_rep e3 ra
    exact ⟨a, _, rfl, .inr (.of ha), z1, z2, same_q hs (.plain rfl) q⟩
  · cases e
def oInS : List D → Option D
  | [.str c, .str z] => match c.cps.toList with
    | [n] => some (.bl (decide (n ∈ z.cps.toList)))
    | _ => none
  | _ => none
theorem str_one {c : Str} {n : Nat} (h : c.cps.toList = [n]) : c = ⟨#[n]⟩ := by
  obtain ⟨a⟩ := c
  have e : a = #[n] := by
    apply Array.ext'
    simpa using h
  rw [e]
theorem ok_inS : OpOk K (l2 fun x y H Q => ∃ (c : Nat) (z : Str), x = .str ⟨#[c]⟩ ∧ y = .str z ∧ Q (.bl (decide (c ∈ z.cps.toList))) H) oInS := by
  intro F H ds vs frs d Q hs rep e q
  unfold oInS at e
  split at e
  · split at e
    · rename_i n hn
      cases e
      obtain ⟨v, w, f, g1, rfl, rfl, ⟨rfl, rfl⟩, ⟨rfl, rfl⟩⟩ := rep.two
      exact ⟨n, _, by rw [str_one hn], rfl, same_q hs (.plain rfl) q⟩
    · cases e
  · cases e
def lenD : D → Option Nat
  | .str x => if x.length ≤ sizeLine then some x.length else none
  | .node _ .lst xs => some xs.length
  | .node _ .tup xs => some xs.length
  | .node _ (.dic _) xs => some xs.length
  | .node _ (.dit _) xs => some xs.length
  | _ => none
def oLen : List D → Option D
  | [x] => (lenD x).map fun n => .int n
  | _ => none
end
end DL
namespace DL
open PySem PySem.Spec L2
section
variable {X : Cx} {W : WX} {ε ε1 ε2 ε3 : Bool} {k k1 k2 k3 : Kd} {ks : List Kd} {e a b c : Expr} {es : List Expr} {f fa fb fc : FE} {ff : FA} {p pos : Pos}
theorem esim_own {K : PySem.W.Frag} {t : TE} (h : ESim K W ε .frz t f) : ESim K W ε .own t f := fun Z F H env σ fp Q r hq => by
  refine h Z F H env σ fp Q r (hq.imp fun d e1 h1 F' H' fp' v fr ev r' rep ko => h1 F' H' fp' v fr ev r' rep ?_)
  have e : fr = [] := ko
  subst e
  exact fun a ha => by cases ha
theorem de_own (h : DE X W ε .frz e f) : DE X W ε .own e f := let ⟨_, q, s⟩ := h.ex; ⟨_, q, esim_own s⟩
theorem Post.mono {K : PySem.W.Frag} {α : Type} {Z : Zst} {F H : Hp} {env : Evn} {σ : L2.St} {fp : Fp} {G : α → Evn → Prop} {r : Rs α} (h : Post K W ε1 Z F H env σ fp G r) (h1 : ε2 = true → ε1 = true) (h2 : ε1 = false → ε2 = false) : Post K W ε2 Z F H env σ fp G r := by
  cases r with
  | ok b e' => exact h
  | exc c x e' => exact fun F' H' fp' dx e2 r2 h3 => h F' H' fp' dx (e2.mono h1 h2) r2 h3
  | stuck => exact h
theorem de_callB {x : Str} {id : String} {r : List V → Hp → VK → Prop} {g : List D → Option D} (hc : CallR X (.builtin id) r) (ho : OpOk X.K r g) (hm : X.mg x = none) (ha : DA X W ε ks (e :: es) ff) (hg : Gl X x := by rfl)
    (hv : bootBuiltins x = some (.builtin id) := by decide +kernel) (hn : x ≠ "__name__" := by decide) (hdb : (x == ("__debug__" : Str)) = false := by decide)
    (he : starEach (e :: es) X.env = (false, eval e X.env) :: starEach es X.env := by rfl) (hpl : (backTo pos (starEach es X.env)).any (·.1) = false := by rfl) : DE X W ε .own (.Call (.Name x p) (e :: es) [] pos) (fOp g ff) := by
  obtain ⟨t, q, s⟩ := ha.ex
  exact ⟨_, pe_callB hc hg hm hv q hn hdb he hpl, esim_op s ho fun σ H Q h => h⟩
theorem de_callTy {x : Str} {T : String} {r : List V → Hp → VK → Prop} {g : List D → Option D} (hc : CallR X (.type T) r) (ho : OpOk X.K r g) (hm : X.mg x = none) (ha : DA X W ε ks (e :: es) ff) (hg : Gl X x := by rfl)
    (hv : bootBuiltins x = some (.type T) := by decide +kernel) (hn : x ≠ "__name__" := by decide) (hdb : (x == ("__debug__" : Str)) = false := by decide)
    (he : starEach (e :: es) X.env = (false, eval e X.env) :: starEach es X.env := by rfl) (hpl : (backTo pos (starEach es X.env)).any (·.1) = false := by rfl) : DE X W ε .own (.Call (.Name x p) (e :: es) [] pos) (fOp g ff) := by
  obtain ⟨t, q, s⟩ := ha.ex
  exact ⟨_, pe_callTy hc hg hm hv q hn hdb he hpl, esim_op s ho fun σ H Q h => h⟩
theorem de_gint {x : Str} {i : Int} (hm : ∃ t, X.mg x = some (.int i t)) (hg : Gl X x := by rfl) (hdb : (x == ("__debug__" : Str)) = false := by decide) : DE X W false .frz (.Name x pos) (fC (.int i)) := by
  obtain ⟨t, h⟩ := hm
  exact ⟨_, pe_glob (v := .int i) hg h ⟨t, rfl⟩ hdb, esim_c rfl⟩
def AccOk (K : PySem.W.Frag) (r : List V → Hp → VK → Prop) (g : List D → Option D) : Prop :=
  ∀ (F H : Hp) (ds : List D) (vs : List V) (fr0 : List Addr) (frs : List (List Addr)) (d : D) (Q : VK), (∀ a u, F a = some u → Has H a u) → RepA K F H ds vs (fr0 :: frs) → g ds = some d →
    (∀ v fr, Rep K F H d v fr → (∀ a ∈ fr, a ∈ fr0) → Q v H) → r vs H Q
theorem KOk.sub {H F' : Hp} {env env' : Evn} {fp fp' : Fp} {fr fr' : List Addr} (h : KOk k H env fp F' env' fp' fr) (s : ∀ a ∈ fr', a ∈ fr) : KOk k H env fp F' env' fp' fr' := by
  cases k with
  | own => exact fun a ha => h a (s a ha)
  | frz =>
    have e : fr = [] := h
    subst e
    cases fr' with
    | nil => rfl
    | cons a r => exact absurd (s a (List.mem_cons_self ..)) (by simp)
  | bor j => exact ⟨h.1, fun a ha => h.2 a (s a ha)⟩
theorem esim_acc {K : PySem.W.Frag} {ta : TA} {t' : TE} {r : List V → Hp → VK → Prop} {g : List D → Option D} (ha : ASim K W ε (k :: ks) ta ff) (ho : AccOk K r g) (ht : ∀ σ H Q, ta σ H (fun vs H' => r vs H' Q) → t' σ H Q) : ESim K W ε k t' (fOp g ff) := by
  intro Z F H env σ fp Q r0 hq
  refine ht σ H Q (ha Z F H env σ fp _ r0 (Post.bind hq id id fun ds e1 h1 F1 H1 fp1 vs frs ev r1 rep ko => ?_))
  cases q : g ds with
  | none => rw [q] at h1; exact h1.elim
  | some d =>
    rw [q] at h1
    cases frs with
    | nil => exact ko.elim
    | cons fr0 frs => exact ho F1 H1 ds vs fr0 frs d Q r1.sub rep q fun v fr rp sb => h1 F1 H1 fp1 v fr ev r1 rp (ko.1.sub sb)
def look {κ α : Type} [DecidableEq κ] : List κ → List α → κ → Option α
  | k :: ks, x :: xs, k' => if k = k' then some x else look ks xs k'
  | _, _, _ => none
theorem RepL.look {K : PySem.W.Frag} {F H : Hp} {κ : Type} [DecidableEq κ] {k : κ} : ∀ {ks : List κ} {ds : List D} {vs : List V} {fp : List Addr} {d : D}, RepL K F H ds vs fp → DL.look ks ds k = some d → ∃ v fq, DL.look ks vs k = some v ∧ Rep K F H d v fq ∧ ∀ a ∈ fq, a ∈ fp
  | [], ds, vs, fp, d, h, e => by simp [DL.look] at e
  | _ :: _, [], vs, fp, d, h, e => by simp [DL.look] at e
  | k' :: ks, d' :: ds, vs, fp, d, h, e => by
    simp only [RepL] at h
    obtain ⟨v, ws, f1, f2, rfl, rfl, h1, h2, h3⟩ := h
    unfold DL.look at e ⊢
    by_cases z : k' = k
    · rw [if_pos z] at e ⊢
      cases e
      exact ⟨v, f1, rfl, h2, fun a ha => List.mem_append_left _ ha⟩
    · rw [if_neg z] at e ⊢
      obtain ⟨v', fq, e1, e2, e3⟩ := RepL.look h3 e
      exact ⟨v', fq, e1, e2, fun a ha => List.mem_append_right _ (e3 a ha)⟩
theorem look_valV {κ : Type} [DecidableEq κ] {k : κ} : ∀ {ks : List κ} {vs : List V}, valV (ks.zip vs) k = look ks vs k
  | [], vs => rfl
  | _ :: _, [] => by simp [look, valV]
  | g :: fs, v :: vs => by
    unfold look
    rw [List.zip_cons_cons]
    unfold valV
    rw [List.find?_cons]
    by_cases h : g = k
    · subst h; simp
    · rw [if_neg h]
      have h' : decide (g = k) = false := by simpa using h
      simp only [h']
      exact look_valV
def oFld (cl f : Str) : List D → Option D
  | [.node _ (.ins c fs) xs] => if c = cl then look fs xs f else none
  | _ => none
def oIx : List D → Option D
  | [.node _ .lst xs, .int i] => atI xs i
  | [.node _ .tup xs, .int i] => atI xs i
  | [.str z, .int i] => if z.length ≤ sizeLine then (atI z.cps.toList i).map fun c => .str ⟨#[c]⟩ else none
  | _ => none
theorem RepL.atI {K : PySem.W.Frag} {F H : Hp} {ds : List D} {vs : List V} {fp : List Addr} {i : Int} {d : D} (h : RepL K F H ds vs fp) (e : L2.atI ds i = some d) : ∃ v fq, L2.atI vs i = some v ∧ Rep K F H d v fq ∧ ∀ a ∈ fq, a ∈ fp := by
  unfold L2.atI at e ⊢
  rw [Option.bind_eq_some_iff] at e
  obtain ⟨j, e1, e2⟩ := e
  obtain ⟨v, fq, h1, h2, h3⟩ := h.get _ _ _ j d e2
  exact ⟨v, fq, by rw [h.len, e1]; exact h1, h2, h3⟩
theorem ok_ix {K : PySem.W.Frag} : AccOk K (l2 (rIx K)) oIx := by
  intro F H ds vs fr0 frs d Q hs rep e q
  unfold oIx at e
  split at e
  · obtain ⟨v, w, f, g1, rfl, hf, h1, rfl, rfl⟩ := rep.two
    cases hf
    obtain ⟨p, us, fq, rfl, hp, rl, sb⟩ := h1.lst hs
    obtain ⟨v', fq', e1, e2, e3⟩ := rl.atI e
    exact .inl ⟨p, us, _, v', rfl, rfl, .of hp, e1, q v' fq' e2 fun x hx => sb x (e3 x hx)⟩
  · obtain ⟨v, w, f, g1, rfl, hf, h1, rfl, rfl⟩ := rep.two
    cases hf
    obtain ⟨p, us, fq, rfl, hp, rl, sb⟩ := h1.tup hs
    obtain ⟨v', fq', e1, e2, e3⟩ := rl.atI e
    exact .inr (.inl ⟨p, us, _, v', rfl, rfl, .of hp, e1, q v' fq' e2 fun x hx => sb x (e3 x hx)⟩)
  · split at e
    · rename_i hz
      obtain ⟨v, w, f, g1, rfl, hf, ⟨rfl, rfl⟩, rfl, rfl⟩ := rep.two
      rw [Option.map_eq_some_iff] at e
      obtain ⟨c, e1, rfl⟩ := e
      exact .inr (.inr ⟨_, _, c, rfl, rfl, hz, e1, q _ [] (.plain rfl) fun x hx => by cases hx⟩)
    · cases e
  · cases e
def keyD : D → Option Key
  | .int i => some (.inl i)
  | .str x => some (.inr x)
  | _ => none
def keysD : List D → Option (List Key)
  | [] => some []
  | d :: ds => (keyD d).bind fun k => (keysD ds).map (k :: ·)
theorem keyD_rep {K : PySem.W.Frag} {F H : Hp} {d : D} {v : V} {fr : List Addr} {k : Key} (e : keyD d = some k) (h : Rep K F H d v fr) : v = kV k := by
  cases d <;> simp only [keyD, Option.some.injEq, reduceCtorEq] at e <;> subst e <;> exact h.1
theorem keysD_rep {K : PySem.W.Frag} {F H : Hp} : ∀ {ds : List D} {vs : List V} {fr : List Addr} {ks : List Key}, keysD ds = some ks → RepL K F H ds vs fr → vs = ks.map kV
  | [], vs, fr, ks, e, h => by cases e; exact h.1
  | d :: ds, vs, fr, ks, e, h => by
    simp only [RepL] at h
    obtain ⟨v, ws, f1, f2, rfl, rfl, h1, h2, h3⟩ := h
    simp only [keysD, Option.bind_eq_some_iff, Option.map_eq_some_iff] at e
    obtain ⟨k, e1, ks', e2, rfl⟩ := e
    rw [keyD_rep e1 h2, keysD_rep e2 h3]
    rfl
def dget : D → D → Option (Option D)
  | .node _ (.dic ks) xs, k => (keyD k).map (look ks xs)
  | .node _ (.dit ks) xs, .node _ .tup ys => (keysD ys).map (look ks xs)
  | _, _ => none
theorem look_none {κ α β : Type} [DecidableEq κ] {k : κ} : ∀ {ks : List κ} {xs : List α} {ys : List β}, xs.length = ys.length → look ks xs k = none → look ks ys k = none
  | [], xs, ys, _, _ => by simp [look]
  | _ :: _, [], [], _, _ => by simp [look]
  | _ :: _, _ :: _, [], h, _ => by simp at h
  | _ :: _, [], _ :: _, h, _ => by simp at h
  | g :: ks, x :: xs, y :: ys, h, e => by
    unfold look at e ⊢
    by_cases z : g = k
    · rw [if_pos z] at e; cases e
    · rw [if_neg z] at e ⊢
      exact look_none (by simpa using h) e
theorem dget_rep {K : PySem.W.Frag} {F H : Hp} {x y : D} {v w : V} {f g : List Addr} {o : Option D} (hs : ∀ a u, F a = some u → Has H a u) (e : dget x y = some o) (h1 : Rep K F H x v f) (h2 : Rep K F H y w g) :
    ∃ a r, v = .ref a ∧ DGet H a w r ∧ (o = none → r = none) ∧ ∀ d, o = some d → ∃ u fq, r = some u ∧ Rep K F H d u fq ∧ ∀ z ∈ fq, z ∈ f := by
  unfold dget at e
  split at e
  · rw [Option.map_eq_some_iff] at e
    obtain ⟨k, e1, rfl⟩ := e
    obtain ⟨a, u, vs, fq, rfl, h3, h4, h5, h6⟩ := h1.node hs
    obtain ⟨hl, rfl⟩ := h4
    refine ⟨a, _, rfl, .inl ⟨_, k, h3.rd, keyD_rep e1 h2, rfl⟩, fun z => ?_, fun d z => ?_⟩
    · rw [look_valV]
      exact look_none h5.len.symm z
    · obtain ⟨u, fq', e2, e3, e4⟩ := h5.look z
      exact ⟨u, fq', by rw [look_valV]; exact e2, e3, fun q hq => h6 q (e4 q hq)⟩
  · rw [Option.map_eq_some_iff] at e
    obtain ⟨k, e1, rfl⟩ := e
    obtain ⟨a, u, vs, fq, rfl, h3, h4, h5, h6⟩ := h1.node hs
    obtain ⟨hl, rfl⟩ := h4
    obtain ⟨b, ws, fq2, rfl, hb, rb, _⟩ := h2.tup hs
    refine ⟨a, _, rfl, .inr ⟨_, k, b, h3.rd, rfl, by rw [hb, keysD_rep e1 rb], rfl⟩, fun z => ?_, fun d z => ?_⟩
    · rw [look_valV]
      exact look_none h5.len.symm z
    · obtain ⟨u, fq', e2, e3, e4⟩ := h5.look z
      exact ⟨u, fq', by rw [look_valV]; exact e2, e3, fun q hq => h6 q (e4 q hq)⟩
  · cases e
def oGet : List D → Option D
  | [x, y] => (dget x y).bind id
  | _ => none
theorem ok_get {K : PySem.W.Frag} : AccOk K (l2 fun x y H Q => ∃ a v, x = .ref a ∧ DGet H a y (some v) ∧ Q v H) oGet := by
  intro F H ds vs fr0 frs d Q hs rep e q
  unfold oGet at e
  split at e
  · rw [Option.bind_eq_some_iff] at e
    obtain ⟨o, e1, e2⟩ := e
    obtain ⟨v, w, f, g1, rfl, hf, h1, h2⟩ := rep.two
    cases hf
    obtain ⟨a, r, rfl, h3, _, h4⟩ := dget_rep hs e1 h1 h2
    obtain ⟨u, fq, rfl, h5, h6⟩ := h4 d e2
    exact ⟨a, u, rfl, h3, q u fq h5 h6⟩
  · cases e
def oDin : List D → Option D
  | [y, x] => (dget x y).map fun o => .bl o.isSome
  | _ => none
def oDnot : List D → Option D
  | [y, x] => (dget x y).map fun o => .bl (!o.isSome)
  | _ => none
theorem dget_is {K : PySem.W.Frag} {F H : Hp} {x y : D} {v w : V} {f g : List Addr} {o : Option D} (hs : ∀ a u, F a = some u → Has H a u) (e : dget x y = some o) (h1 : Rep K F H x v f) (h2 : Rep K F H y w g) : ∃ a r, v = .ref a ∧ DGet H a w r ∧ r.isSome = o.isSome := by
  obtain ⟨a, r, rfl, h3, h4, h5⟩ := dget_rep hs e h1 h2
  refine ⟨a, r, rfl, h3, ?_⟩
  cases o with
  | none => rw [h4 rfl]; rfl
  | some d =>
    obtain ⟨u, fq, rfl, _⟩ := h5 d rfl
    rfl
theorem ok_din {K : PySem.W.Frag} : OpOk K (l2 fun y x H Q => ∃ a o, x = .ref a ∧ DGet H a y o ∧ Q (.bl o.isSome) H) oDin := by
  intro F H ds vs frs d Q hs rep e q
  unfold oDin at e
  split at e
  · rw [Option.map_eq_some_iff] at e
    obtain ⟨o, e1, rfl⟩ := e
    obtain ⟨v, w, f, g1, rfl, rfl, h1, h2⟩ := rep.two
    obtain ⟨a, r, rfl, h3, h4⟩ := dget_is hs e1 h2 h1
    exact ⟨a, r, rfl, h3, by rw [h4]; exact same_q hs (.plain rfl) q⟩
  · cases e
theorem ok_dnot {K : PySem.W.Frag} : OpOk K (l2 fun y x H Q => ∃ a o, x = .ref a ∧ DGet H a y o ∧ Q (.bl (!o.isSome)) H) oDnot := by
  intro F H ds vs frs d Q hs rep e q
  unfold oDnot at e
  split at e
  · rw [Option.map_eq_some_iff] at e
    obtain ⟨o, e1, rfl⟩ := e
    obtain ⟨v, w, f, g1, rfl, rfl, h1, h2⟩ := rep.two
    obtain ⟨a, r, rfl, h3, h4⟩ := dget_is hs e1 h2 h1
    exact ⟨a, r, rfl, h3, by rw [h4]; exact same_q hs (.plain rfl) q⟩
  · cases e
def Kd.prot : Kd → Bool
  | .bor _ => false
  | _ => true
theorem RepA.flat {K : PySem.W.Frag} {F H H0 : Hp} {env env' : Evn} {fp fp' : Fp} : ∀ {ks : List Kd} {ds : List D} {vs : List V} {frs : List (List Addr)}, RepA K F H ds vs frs → KOks H0 env fp F env' fp' ks frs → ks.all Kd.prot = true →
    RepL K F H ds vs frs.flatten ∧ ∀ a ∈ frs.flatten, (H0 a = none ∨ OwnA env fp a) ∧ ¬ OwnA env' fp' a ∧ F a = none
  | ks, [], vs, frs, h, ko, _ => by
    obtain ⟨rfl, rfl⟩ := h.inv0
    exact ⟨⟨rfl, rfl⟩, fun a ha => by simp at ha⟩
  | [], d :: ds, vs, frs, h, ko, hp => by
    obtain ⟨v, ws, f, fs, rfl, rfl, h1, h2⟩ := h.inv
    exact ko.elim
  | k :: ks, d :: ds, vs, frs, h, ko, hp => by
    obtain ⟨v, ws, f, fs, rfl, rfl, h1, h2⟩ := h.inv
    obtain ⟨k1, k2, k3⟩ := ko
    rw [List.all_cons, Bool.and_eq_true] at hp
    obtain ⟨r1, r2⟩ := RepA.flat h2 k3 hp.2
    rw [List.flatten_cons]
    have own : ∀ a ∈ f, (H0 a = none ∨ OwnA env fp a) ∧ ¬ OwnA env' fp' a ∧ F a = none := by
      cases k with
      | own => exact k1
      | frz =>
        have e : f = [] := k1
        rw [e]
        exact fun a ha => by cases ha
      | bor j => exact absurd hp.1 (by simp [Kd.prot])
    refine ⟨RepL.mk (fun a ha hm => ?_) h1 r1, fun a ha => ?_⟩
    · cases k with
      | own =>
        obtain ⟨g, hg, hag⟩ := List.mem_flatten.mp hm
        obtain ⟨i, hi, eg⟩ := List.mem_iff_getElem.mp hg
        have eg' : fs[i]? = some g := by rw [List.getElem?_eq_getElem hi, eg]
        have key : ∀ {ks : List Kd} {fs : List (List Addr)} {i : Nat} {g : List Addr}, KOks H0 env fp F env' fp' ks fs → ks.all Kd.prot = true → fs[i]? = some g → a ∈ g → ks[i]? = some Kd.own := by
          intro ks
          induction ks with
          | nil =>
            intro fs i g h _ e _
            cases fs with
            | nil => simp at e
            | cons x y => exact h.elim
          | cons k ks ih =>
            intro fs i g h hp e ha
            cases fs with
            | nil => exact h.elim
            | cons x y =>
              rw [List.all_cons, Bool.and_eq_true] at hp
              cases i with
              | zero =>
                simp at e
                subst e
                cases k with
                | own => rfl
                | frz =>
                  have e2 : x = [] := h.1
                  rw [e2] at ha
                  cases ha
                | bor j => exact absurd hp.1 (by simp [Kd.prot])
              | succ i =>
                have := ih (i := i) h.2.2 hp.2 (by simpa using e) ha
                simpa using this
        exact k2 rfl i g (key k3 hp.2 eg' hag) eg' a ha hag
      | frz =>
        have e : f = [] := k1
        rw [e] at ha
        cases ha
      | bor j => exact absurd hp.1 (by simp [Kd.prot])
    · rcases List.mem_append.mp ha with ha | ha
      · exact own a ha
      · exact r2 a ha
def oTup (ds : List D) : Option D := if ds.length ≤ sizeLine then some (.node (!frzL ds) .tup ds) else none
def oLst (ds : List D) : Option D := if ds.length ≤ sizeLine then some (.node true .lst ds) else none
theorem esim_disp {K : PySem.W.Frag} {ta : TA} {t' : TE} {g : List D → Option D} {o : List V → HO} {sh : Sh} {fl : List D → Bool} (ha : ASim K W ε ks ta ff) (hp : ks.all Kd.prot = true) (hg : ∀ ds, g ds = if ds.length ≤ sizeLine then some (.node (fl ds) sh ds) else none)
    (hn : ∀ vs : List V, ∀ n, vs.length = n → IsN K sh vs (o vs)) (hfl : ∀ ds, fl ds = false → frzL ds = true) (htp : ∀ ds, fl ds = true → tupOk sh ds) (ht : ∀ σ H Q, ta σ H (fun xs H1 => xs.length ≤ sizeLine ∧ ∀ p, H1 p = none → Q (.ref p) (upd H1 p (o xs))) → t' σ H Q) : ESim K W ε .own t' (fOp g ff) := by
  intro Z F H env σ fp Q r0 hq
  refine ht σ H Q (ha Z F H env σ fp _ r0 (Post.bind hq id id fun ds e1 h1 F1 H1 fp1 vs frs ev r1 rep ko => ?_))
  rw [hg ds] at h1
  by_cases hl : ds.length ≤ sizeLine
  · rw [if_pos hl] at h1
    obtain ⟨rl, own⟩ := rep.flat ko hp
    refine ⟨by rw [rl.len]; exact hl, fun p n => ?_⟩
    cases hz : fl ds with
    | true =>
      rw [hz] at h1
      have gr := Grow.upd (o := o vs) r1.sub n (hn vs _ rfl).nfz
      have ev2 : Ev ε F H env fp F1 (upd H1 p (o vs)) e1 fp1 := (ev.trans (gr.ev (ε := ε))).mono (by cases ε <;> simp) (by cases ε <;> simp)
      refine h1 F1 _ fp1 (.ref p) (p :: frs.flatten) ev2 (r1.grow gr) ?_ fun a ha => ?_
      · rw [Rep]
        exact ⟨p, o vs, vs, frs.flatten, rfl, rfl, .inl upd_same, hn vs _ rfl, fun z => RepL.dom ds vs _ rl p z n, htp ds hz, rl.grow gr⟩
      · rcases List.mem_cons.mp ha with rfl | ha
        · refine ⟨.inl (ev.nd n), fun z => r1.own_dom z n, ?_⟩
          cases z : F1 a with
          | none => rfl
          | some u => exact absurd n (r1.sub a u z).ne
        · exact own a ha
    | false =>
      rw [hz] at h1
      have gr := Grow.updF (o := o vs) r1.sub n (hn vs _ rfl).nfz
      have ev2 : Ev ε F H env fp (upd F1 p (o vs)) (upd H1 p (o vs)) e1 fp1 := (ev.trans (gr.ev (ε := ε))).mono (by cases ε <;> simp) (by cases ε <;> simp)
      refine h1 _ _ fp1 (.ref p) [] ev2 (r1.grow gr) ?_ fun a ha => by cases ha
      rw [Rep]
      exact ⟨p, o vs, vs, rfl, rfl, upd_same, hn vs _ rfl, (rl.nil0 (hfl ds hz)).grow gr⟩
  · rw [if_neg hl] at h1
    exact h1.elim
theorem de_tup {k' : _} (ha : DA X W ε ks es ff) (hp : ks.all Kd.prot = true := by rfl) : DE X W ε .own (.Tuple es k' pos) (fOp oTup ff) := by
  obtain ⟨t, q, s⟩ := ha.ex
  refine ⟨_, pe_tup q, esim_disp (o := .tup) (sh := .tup) (fl := fun ds => !frzL ds) s hp (fun ds => rfl) (fun vs n _ => rfl) (fun ds h => by simpa using h) (fun ds h _ => by simpa using h) fun σ H Q h => h⟩
theorem de_lst (ha : DA X W ε ks es ff) (hp : ks.all Kd.prot = true := by rfl) : DE X W ε .own (.List es pos) (fOp oLst ff) := by
  obtain ⟨t, q, s⟩ := ha.ex
  refine ⟨_, pe_lst q, esim_disp (o := .lst) (sh := .lst) (fl := fun ds => true) s hp (fun ds => rfl) (fun vs n _ => rfl) (fun ds h => by cases h) (fun ds h z => by cases z) fun σ H Q h => h⟩
end
end DL
namespace DL
open PySem PySem.Spec L2
section
variable {X : Cx} {W : WX} {ε ε1 ε2 ε3 : Bool} {k k1 k2 k3 : Kd} {ks : List Kd} {e a b c : Expr} {es rest : List Expr} {f fa fb fc : FE} {ff : FA} {p pos : Pos} {g g1 g2 : FT}
def fB (f : FE) : FT := fun env => (f env).bind fun d e => match d with
  | .bl b => .ok b e
  | _ => .stuck
theorem tsim_B {K : PySem.W.Frag} {t : TE} {t' : TT} (h : ESim K W ε k t f) (ht : ∀ σ H Q, t σ H (fun x H' => ∃ c, x = .bl c ∧ Q c H') → t' σ H Q) : TSim K W ε t' (fB f) := fun Z F H env σ fp Q r hq => by
  refine ht σ H Q (h Z F H env σ fp _ r (Post.bind hq id id fun d e1 h1 F' H' fp' v fr ev r' rep _ => ?_))
  cases d with
  | bl b =>
    cases rep.1
    exact ⟨b, rfl, h1 F' H' fp' ev r'⟩
  | _ => exact h1.elim
theorem dt_val (h : DE X W ε k e f) (he : ∀ whole, isTrue e X.env whole = (do let v ← whole; standAt e.pos; holding [v] (truthy v)) := by intro _; rfl) : DT X W ε e (fB f) := let ⟨_, q, s⟩ := h.ex; ⟨_, pt_val q he, tsim_B s fun σ H Q h => h⟩
theorem dt_cmp {op : CmpOp} {r : R2} {g : List D → Option D} (hr : OpR X (compareOp op) r) (ho : OpOk X.K (l2 r) g) (ha : DE X W ε1 k1 a fa) (hb : DE X W ε2 k2 b fb)
    (hp : ε2 = true → ∀ j, k1 ≠ .bor j := by first | exact fun h => (nomatch h) | exact fun _ j h => (nomatch h)) (hm : behindInMarks op b = false := by first | exact nomark _ | rfl) : DT X W (ε1 || (ε2 || false)) (.Compare a [op] [b] pos) (fB (fOp g (aCons fa (aCons fb aNil)))) := by
  obtain ⟨ta, tb, p1, p2, s⟩ := da_two ha hb hp
  exact ⟨_, pt_cmpR hr p1 p2 hm, tsim_B (esim_op (t' := tOp r ta tb) s ho fun σ H Q h => h) fun σ H Q h => h⟩
structure DW (X : Cx) (W : WX) (ε : Bool) (e : Expr) (f : FT) : Prop where
  ex : ∃ t, PW X e t ∧ TSim X.K W ε t f
theorem DW.dt (h : DW X W ε e g) : DT X W ε e g := let ⟨_, q, s⟩ := h.ex; ⟨_, q.pt, s⟩
def fAnd (f g : FT) : FT := fun env => (f env).bind fun b e => if b = true then g e else .ok false e
def fOr (f g : FT) : FT := fun env => (f env).bind fun b e => if b = true then .ok true e else g e
def fNot (f : FT) : FT := fun env => (f env).map (!·)
theorem dw_and1 (h : DT X W ε a g) : DW X W ε (.BoolOp .And [a] pos) g := let ⟨_, q, s⟩ := h.ex; ⟨_, pw_and1 q, s⟩
theorem dw_or1 (h : DT X W ε a g) : DW X W ε (.BoolOp .Or [a] pos) g := let ⟨_, q, s⟩ := h.ex; ⟨_, pw_or1 q, s⟩
theorem dw_and (h1 : DT X W ε1 a g1) (h2 : DW X W ε2 (.BoolOp .And (b :: rest) pos) g2) : DW X W (ε1 || ε2) (.BoolOp .And (a :: b :: rest) pos) (fAnd g1 g2) := by
  obtain ⟨t1, p1, s1⟩ := h1.ex
  obtain ⟨t2, p2, s2⟩ := h2.ex
  refine ⟨_, pw_and p1 p2, fun Z F H env σ fp Q r hq => ?_⟩
  refine s1 Z F H env σ fp _ r (Post.bind hq orL orLF fun c e1 h1 F1 H1 fp1 ev r1 => ?_)
  cases c with
  | true => exact s2 Z F1 H1 e1 σ fp1 Q r1 ((Post.seq (a := ()) (ε2 := ε2) ev h1).imp fun b e2 h3 F2 H2 fp2 ev2 r2 => h3 F2 H2 fp2 (ev.trans ev2) r2)
  | false => exact h1 F1 H1 fp1 (ev.mono orL orLF) r1
theorem dw_or (h1 : DT X W ε1 a g1) (h2 : DW X W ε2 (.BoolOp .Or (b :: rest) pos) g2) : DW X W (ε1 || ε2) (.BoolOp .Or (a :: b :: rest) pos) (fOr g1 g2) := by
  obtain ⟨t1, p1, s1⟩ := h1.ex
  obtain ⟨t2, p2, s2⟩ := h2.ex
  refine ⟨_, pw_or p1 p2, fun Z F H env σ fp Q r hq => ?_⟩
  refine s1 Z F H env σ fp _ r (Post.bind hq orL orLF fun c e1 h1 F1 H1 fp1 ev r1 => ?_)
  cases c with
  | false => exact s2 Z F1 H1 e1 σ fp1 Q r1 ((Post.seq (a := ()) (ε2 := ε2) ev h1).imp fun b e2 h3 F2 H2 fp2 ev2 r2 => h3 F2 H2 fp2 (ev.trans ev2) r2)
  | true => exact h1 F1 H1 fp1 (ev.mono orL orLF) r1
theorem dt_not (h : DT X W ε a g) : DT X W ε (.UnaryOp .Not a pos) (fNot g) := by
  obtain ⟨t, q, s⟩ := h.ex
  refine ⟨_, pt_not q, fun Z F H env σ fp Q r hq => s Z F H env σ fp _ r (Post.bind hq id id fun c e1 h1 F1 H1 fp1 ev r1 => h1 F1 H1 fp1 ev r1)⟩
def fAndV (f g : FE) : FE := fun env => (f env).bind fun d e => match d with
  | .bl true => g e
  | .bl false => .ok (.bl false) e
  | _ => .stuck
def fOrV (f g : FE) : FE := fun env => (f env).bind fun d e => match d with
  | .bl true => .ok (.bl true) e
  | .bl false => g e
  | _ => .stuck
def fNotV (f : FE) : FE := fun env => (f env).bind fun d e => match d with
  | .bl b => .ok (.bl (!b)) e
  | _ => .stuck
theorem de_bool1 {op} (h : DE X W ε k a f) : DE X W ε k (.BoolOp op [a] pos) f := let ⟨_, q, s⟩ := h.ex; ⟨_, pe_one q, s⟩
theorem de_and (h1 : DE X W ε1 k1 a fa) (h2 : DE X W ε2 .own (.BoolOp .And (b :: rest) pos) fb) : DE X W (ε1 || ε2) .own (.BoolOp .And (a :: b :: rest) pos) (fAndV fa fb) := by
  obtain ⟨t1, p1, s1⟩ := h1.ex
  obtain ⟨t2, p2, s2⟩ := h2.ex
  refine ⟨_, pe_and p1 p2, fun Z F H env σ fp Q r hq => ?_⟩
  refine s1 Z F H env σ fp _ r (Post.bind hq orL orLF fun d e1 h1 F1 H1 fp1 v fr ev r1 rep _ => ?_)
  cases d with
  | bl c =>
    cases rep.1
    refine ⟨c, rfl, ?_⟩
    cases c with
    | true => exact s2 Z F1 H1 e1 σ fp1 Q r1 ((Post.seq (a := ()) (ε2 := ε2) ev h1).imp fun b e2 h3 F2 H2 fp2 v fr ev2 r2 rp ko => h3 F2 H2 fp2 v fr (ev.trans ev2) r2 rp (ko.rel ev))
    | false => exact h1 F1 H1 fp1 (.bl false) [] (ev.mono orL orLF) r1 (.plain rfl) fun a ha => by cases ha
  | _ => exact h1.elim
theorem de_or (h1 : DE X W ε1 k1 a fa) (h2 : DE X W ε2 .own (.BoolOp .Or (b :: rest) pos) fb) : DE X W (ε1 || ε2) .own (.BoolOp .Or (a :: b :: rest) pos) (fOrV fa fb) := by
  obtain ⟨t1, p1, s1⟩ := h1.ex
  obtain ⟨t2, p2, s2⟩ := h2.ex
  refine ⟨_, pe_or p1 p2, fun Z F H env σ fp Q r hq => ?_⟩
  refine s1 Z F H env σ fp _ r (Post.bind hq orL orLF fun d e1 h1 F1 H1 fp1 v fr ev r1 rep _ => ?_)
  cases d with
  | bl c =>
    cases rep.1
    refine ⟨c, rfl, ?_⟩
    cases c with
    | false => exact s2 Z F1 H1 e1 σ fp1 Q r1 ((Post.seq (a := ()) (ε2 := ε2) ev h1).imp fun b e2 h3 F2 H2 fp2 v fr ev2 r2 rp ko => h3 F2 H2 fp2 v fr (ev.trans ev2) r2 rp (ko.rel ev))
    | true => exact h1 F1 H1 fp1 (.bl true) [] (ev.mono orL orLF) r1 (.plain rfl) fun a ha => by cases ha
  | _ => exact h1.elim
theorem de_not (h : DE X W ε k a f) : DE X W ε .own (.UnaryOp .Not a pos) (fNotV f) := by
  obtain ⟨t, q, s⟩ := h.ex
  refine ⟨_, pe_not q, fun Z F H env σ fp Q r hq => s Z F H env σ fp _ r (Post.bind hq id id fun d e1 h1 F1 H1 fp1 v fr ev r1 rep _ => ?_)⟩
  cases d with
  | bl c =>
    cases rep.1
    exact ⟨c, rfl, h1 F1 H1 fp1 (.bl (!c)) [] ev r1 (.plain rfl) fun a ha => by cases ha⟩
  | _ => exact h1.elim
def fIf (t : FT) (f g : FE) : FE := fun env => (t env).bind fun b e => if b = true then f e else g e
theorem de_ifExp (hc : DT X W ε1 c g) (ha : DE X W ε2 k a fa) (hb : DE X W ε3 k b fb) : DE X W (ε1 || (ε2 || ε3)) k (.IfExp c a b pos) (fIf g fa fb) := by
  obtain ⟨t1, p1, s1⟩ := hc.ex
  obtain ⟨t2, p2, s2⟩ := ha.ex
  obtain ⟨t3, p3, s3⟩ := hb.ex
  refine ⟨_, pe_ifExp p1 p2 p3, fun Z F H env σ fp Q r hq => ?_⟩
  refine s1 Z F H env σ fp _ r (Post.bind hq orL orLF fun c e1 h1 F1 H1 fp1 ev r1 => ?_)
  have h1' := Post.seq (a := ()) (ε2 := ε2 || ε3) ev h1
  cases c with
  | true =>
    refine s2 Z F1 H1 e1 σ fp1 Q r1 (Post.imp (h1'.mono orL orLF) fun d e2 h3 F2 H2 fp2 v fr ev2 r2 rp ko => h3 F2 H2 fp2 v fr ?_ r2 rp (ko.rel ev))
    exact ev.trans (ev2.mono orL orLF)
  | false =>
    refine s3 Z F1 H1 e1 σ fp1 Q r1 (Post.imp (h1'.mono orR orRF) fun d e2 h3 F2 H2 fp2 v fr ev2 r2 rp ko => h3 F2 H2 fp2 v fr ?_ r2 rp (ko.rel ev))
    exact ev.trans (ev2.mono orR orRF)
def fChain (g g' : List D → Option D) (fa fb fc : FE) : FE := fun env => (aCons fa (aCons fb aNil) env).bind fun ds e => match ds with
  | [x, y] => (match g [x, y] with
    | some (.bl true) => (fc e).bind fun z e2 => optR (g' [y, z]) e2
    | some (.bl false) => .ok (.bl false) e
    | _ => .stuck)
  | _ => .stuck
theorem esim_chain {K : PySem.W.Frag} {ta tb tc : TE} {r r' : R2} {g g' : List D → Option D} (ho : OpOk K (l2 r) g) (ho' : OpOk K (l2 r') g') (s1 : ESim K W false k1 ta fa) (s2 : ESim K W false k2 tb fb) (s3 : ESim K W false k3 tc fc) :
    ESim K W false .own (tChain r r' ta tb tc) (fChain g g' fa fb fc) := by
  intro Z F H env σ fp Q r0 hq
  have s := asim_cons s1 (asim_cons s2 asim_nil (fun h => by cases h)) (fun h => by cases h)
  show tCons ta (tCons tb tNil) σ H (fun vs H2 => l2 (fun x y H2 Q' => r x y H2 fun z H3 => ∃ k, z = .bl k ∧ (if k = true then tc σ H3 fun w' H4 => r' y w' H4 Q else Q (.bl false) H3)) vs H2 Q)
  refine s Z F H env σ fp _ r0 (Post.bind hq id id fun ds e1 h1 F1 H1 fp1 vs frs ev r1 rep ko => ?_)
  match ds, rep, h1 with
  | [x, y], rep, h1 =>
    obtain ⟨vx, vy, f1, f2, rfl, rfl, rx, ry⟩ := rep.two
    have h2 : Post K W false Z F H env σ fp (fun d env' => ∀ F' H' fp' v fr, Ev false F H env fp F' H' env' fp' → R K Z F' H' env' σ fp' → Rep K F' H' d v fr → KOk .own H env fp F' env' fp' fr → Q v H') (match g [x, y] with
      | some (.bl true) => (fc e1).bind fun z e2 => optR (g' [y, z]) e2
      | some (.bl false) => .ok (.bl false) e1
      | _ => .stuck) := h1
    cases q : g [x, y] with
    | none => rw [q] at h2; exact h2.elim
    | some d =>
      rw [q] at h2
      cases d with
      | bl b =>
        refine ho F1 H1 [x, y] [vx, vy] [f1, f2] (.bl b) _ r1.sub rep q fun F2 H2 v fr gr rp fresh => ?_
        cases rp.1
        refine ⟨b, rfl, ?_⟩
        have r2 := r1.grow gr
        have ev2 : Ev false F H env fp F2 H2 e1 fp1 := (ev.trans (gr.ev (ε := false)))
        cases b with
        | false => exact h2 F2 H2 fp1 (.bl false) [] ev2 r2 (.plain rfl) fun a ha => by cases ha
        | true =>
          refine s3 Z F2 H2 e1 σ fp1 _ r2 (Post.bind (Post.seq (a := ()) (ε2 := false) ev2 h2) id id fun z e2 h3 F3 H3 fp3 w fw ev3 r3 rw' _ => ?_)
          cases q2 : g' [y, z] with
          | none => rw [q2] at h3; exact h3.elim
          | some d =>
            rw [q2] at h3
            have ry3 : Rep K F3 H3 y vy f2 := (ry.grow gr).ev ev3 fun h => by cases h
            refine ho' F3 H3 [y, z] [vy, w] [f2, fw] d Q r3.sub ⟨ry3, rw', trivial⟩ q2 fun F4 H4 v fr gr4 rp4 fresh4 => ?_
            have ev4 := ev2.trans (ev3.trans (gr4.ev (ε := false)))
            exact h3 F4 H4 fp3 v fr ev4 (r3.grow gr4) rp4 fun a ha => ⟨.inl ((ev2.trans ev3).nd (fresh4 a ha).1), fun z => r3.own_dom z (fresh4 a ha).1, (fresh4 a ha).2⟩
      | _ => exact h2.elim
  | [], _, h1 => exact h1.elim
  | [_], _, h1 => exact h1.elim
  | _ :: _ :: _ :: _, _, h1 => exact h1.elim
theorem de_chain {op op' : CmpOp} {r r' : R2} {g g' : List D → Option D} (hr : OpR X (compareOp op) r) (hr' : OpR X (compareOp op') r') (ho : OpOk X.K (l2 r) g) (ho' : OpOk X.K (l2 r') g') (ha : DE X W false k1 a fa) (hb : DE X W false k2 b fb) (hc : DE X W false k3 c fc)
    (hm : lastMarks [op, op'] [b, c] = false := by with_unfolding_all rfl) : DE X W false .own (.Compare a [op, op'] [b, c] pos) (fChain g g' fa fb fc) := by
  obtain ⟨ta, p1, s1⟩ := ha.ex
  obtain ⟨tb, p2, s2⟩ := hb.ex
  obtain ⟨tc, p3, s3⟩ := hc.ex
  exact ⟨_, pe_chain hr hr' p1 p2 p3 hm, esim_chain ho ho' s1 s2 s3⟩
theorem dt_chain {op op' : CmpOp} {r r' : R2} {g g' : List D → Option D} (hr : OpR X (compareOp op) r) (hr' : OpR X (compareOp op') r') (ho : OpOk X.K (l2 r) g) (ho' : OpOk X.K (l2 r') g') (ha : DE X W false k1 a fa) (hb : DE X W false k2 b fb) (hc : DE X W false k3 c fc)
    (hm : lastMarks [op, op'] [b, c] = false := by with_unfolding_all rfl) : DT X W false (.Compare a [op, op'] [b, c] pos) (fB (fChain g g' fa fb fc)) := by
  obtain ⟨ta, p1, s1⟩ := ha.ex
  obtain ⟨tb, p2, s2⟩ := hb.ex
  obtain ⟨tc, p3, s3⟩ := hc.ex
  exact ⟨_, pt_chain hr hr' p1 p2 p3 hm, tsim_B (esim_chain ho ho' s1 s2 s3) fun σ H Q h => h⟩
def OSim (K : PySem.W.Frag) (W : WX) (ε : Bool) (t : TO) (f : Evn → Rs (Option Int)) : Prop := ∀ Z F H env σ fp Q, R K Z F H env σ fp →
  Post K W ε Z F H env σ fp (fun o env' => ∀ F' H' fp', Ev ε F H env fp F' H' env' fp' → R K Z F' H' env' σ fp' → Q o H') (f env) → t σ H Q
structure DO (X : Cx) (W : WX) (ε : Bool) (e : Option Expr) (f : Evn → Rs (Option Int)) : Prop where
  ex : ∃ t, PO X e t ∧ OSim X.K W ε t f
theorem do_none : DO X W false none (fun env => .ok none env) := ⟨_, po_none, fun Z F H env σ fp Q r hq => hq F H fp (Ev.refl (Z := Z) _ rfl) r⟩
def fPart (f : FE) : Evn → Rs (Option Int) := fun env => (f env).bind fun d e => match d with
  | .int i => .ok (some i) e
  | _ => .stuck
theorem do_some (h : DE X W ε k e f) : DO X W ε (some e) (fPart f) := by
  obtain ⟨t, q, s⟩ := h.ex
  refine ⟨_, po_some q, fun Z F H env σ fp Q r hq => s Z F H env σ fp _ r (Post.bind hq id id fun d e1 h1 F1 H1 fp1 v fr ev r1 rep _ => ?_)⟩
  cases d with
  | int i =>
    cases rep.1
    exact ⟨i, rfl, h1 F1 H1 fp1 ev r1⟩
  | _ => exact h1.elim
def cutD (xs : List D) (lo hi : Option Int) : List D := (xs.drop (HT.sIx xs.length 0 lo)).take (HT.sIx xs.length xs.length hi - HT.sIx xs.length 0 lo)
def oSl (d : D) (lo hi : Option Int) : Option D := match d with
  | .node _ .lst xs => if frzL xs = true then some (.node true .lst (cutD xs lo hi)) else none
  | .node _ .tup xs => if frzL xs = true then some (.node false .tup (cutD xs lo hi)) else none
  | .str z => if z.length ≤ sizeLine then some (.str (Txt.slice z lo hi)) else none
  | .scr ns => some (.node true .lst (cutD (ns.map .int) lo hi))
  | .tscr ns _ => some (.node true .lst (cutD (ns.map .int) lo hi))
  | _ => none
def rSl3 (K : PySem.W.Frag) : V → Option Int → Option Int → Hp → VK → Prop := fun x lo hi H Q => rSlL K x lo hi H Q ∨ (rSlA K x lo hi H Q ∨ C8.rSlX x lo hi H Q)
theorem sl_3 : SlR X (rSl3 X.K) := sl_list.or (sl_tupA.or C8.sl_txt)
theorem RepL.drop0 {K : PySem.W.Frag} {F H : Hp} : ∀ (n : Nat) {ds : List D} {vs : List V}, RepL K F H ds vs [] → RepL K F H (ds.drop n) (vs.drop n) []
  | 0, ds, vs, h => h
  | n + 1, [], vs, h => by cases h.1; exact h
  | n + 1, d :: ds, vs, h => by
    simp only [RepL] at h
    obtain ⟨v, ws, f1, f2, rfl, e, h1, h2, h3⟩ := h
    have e2 : f2 = [] := (List.append_eq_nil_iff.mp e.symm).2
    rw [e2] at h3
    exact RepL.drop0 n h3
theorem RepL.take0 {K : PySem.W.Frag} {F H : Hp} : ∀ (n : Nat) {ds : List D} {vs : List V}, RepL K F H ds vs [] → RepL K F H (ds.take n) (vs.take n) []
  | 0, ds, vs, h => ⟨rfl, rfl⟩
  | n + 1, [], vs, h => by cases h.1; exact h
  | n + 1, d :: ds, vs, h => by
    simp only [RepL] at h
    obtain ⟨v, ws, f1, f2, rfl, e, h1, h2, h3⟩ := h
    have e2 : f2 = [] := (List.append_eq_nil_iff.mp e.symm).2
    have e1 : f1 = [] := (List.append_eq_nil_iff.mp e.symm).1
    rw [e2] at h3
    rw [e1] at h2
    exact RepL.mk (f1 := []) (f2 := []) (fun a ha => by cases ha) h2 (RepL.take0 n h3)
def fSl (fa : FE) (lo hi : Evn → Rs (Option Int)) : FE := fun env => (fa env).bind fun d e1 => (lo e1).bind fun l e2 => (hi e2).bind fun u e3 => optR (oSl d l u) e3
theorem de_slice {lo hi : Option Expr} {gl gh : Evn → Rs (Option Int)} {p2} (ha : DE X W ε1 k1 a fa) (hl : DO X W ε2 lo gl) (hh : DO X W ε3 hi gh) (hp : (ε2 || ε3) = true → ∀ j, k1 ≠ .bor j := by first | exact fun h => (nomatch h) | exact fun _ j h => (nomatch h)) :
    DE X W (ε1 || (ε2 || ε3)) .own (.Subscript a (.Slice lo hi none p2) pos) (fSl fa gl gh) := by
  obtain ⟨ta, p1, s1⟩ := ha.ex
  obtain ⟨tl, p2, s2⟩ := hl.ex
  obtain ⟨th, p3, s3⟩ := hh.ex
  refine ⟨_, pe_slice sl_3 p1 p2 p3, fun Z F H env σ fp Q r hq => ?_⟩
  refine s1 Z F H env σ fp _ r (Post.bind hq orL orLF fun d e1 h1 F1 H1 fp1 v fr ev1 r1 rep ko => ?_)
  have h1' := Post.seq (a := ()) (ε2 := ε2 || ε3) ev1 h1
  refine s2 Z F1 H1 e1 σ fp1 _ r1 (Post.bind (h1'.mono id id) orL orLF fun l e2 h2 F2 H2 fp2 ev2 r2 => ?_)
  have h2' := Post.seq (a := ()) (ε2 := ε3) ev2 h2
  refine s3 Z F2 H2 e2 σ fp2 _ r2 (Post.bind (h2'.mono id id) id id fun u e3 h3 F3 H3 fp3 ev3 r3 => ?_)
  have rep2 := KOk.ev ev2 rep (fun z => hp (orL z)) ko
  have rep3 := KOk.ev ev3 rep2.1 (fun z => hp (orR z)) rep2.2
  have ev := ev1.trans (ev2.trans ev3)
  unfold oSl at h3
  have hs := r3.sub
  have fin : ∀ (F' H' : Hp) (v : V) (fr : List Addr), Grow F3 H3 F' H' → (∀ a ∈ fr, H3 a = none ∧ F' a = none) → Ev (ε1 || (ε2 || ε3)) F H env fp F' H' e3 fp3 ∧ R X.K Z F' H' e3 σ fp3 ∧ KOk .own H env fp F' e3 fp3 fr := fun F' H' v fr gr fresh =>
    ⟨(ev.trans (gr.ev (ε := false))).mono (by simp) (by simp), r3.grow gr, fun a ha => ⟨.inl (ev.nd (fresh a ha).1), fun z => r3.own_dom z (fresh a ha).1, (fresh a ha).2⟩⟩
  split at h3
  · split at h3
    · rename_i o xs hz
      obtain ⟨a, vs, fq, rfl, ha, ra, _⟩ := rep3.1.lst hs
      refine .inl ⟨a, vs, rfl, .of ha, new_lst (K := X.K) hs (xs := cutD xs l u) ?_ fun F' H' v fr gr rp fresh => ?_⟩
      · unfold cutD cutV
        rw [ra.len]
        exact (ra.nil0 hz).drop0 _ |>.take0 _
      · obtain ⟨x1, x2, x3⟩ := fin F' H' v fr gr fresh
        exact h3 F' H' fp3 v fr x1 x2 rp x3
    · exact h3.elim
  · split at h3
    · rename_i o xs hz
      obtain ⟨a, vs, fq, rfl, ha, ra, _⟩ := rep3.1.tup hs
      have key : RepL X.K F3 H3 (cutD xs l u) (cutV vs l u) [] := by
        unfold cutD cutV
        rw [ra.len]
        exact (ra.nil0 hz).drop0 _ |>.take0 _
      refine .inr (.inl ⟨a, vs, rfl, .of ha, fun hw => ?_, fun _ => new_tup hs key fun F' H' v fr gr rp fresh => ?_⟩)
      · have e : cutD xs l u = xs := by
          unfold cutD
          rw [← ra.len, hw.1, hw.2]
          simp [ra.len]
        obtain ⟨x1, x2, x3⟩ := fin F3 H3 (.ref a) [] (.refl hs) fun a ha => by cases ha
        rw [e] at h3
        cases o with
        | false =>
          have rr := rep3.1
          have e2 := Rep.frz_nil _ _ _ (by simp [D.frz, hz]) rr
          rw [e2] at rr
          exact h3 F3 H3 fp3 (.ref a) [] x1 x2 rr x3
        | true =>
          have rr := rep3.1
          simp only [Rep] at rr
          obtain ⟨_, _, _, _, _, _, _, _, _, z, _⟩ := rr
          rw [z rfl] at hz
          cases hz
      · obtain ⟨x1, x2, x3⟩ := fin F' H' v fr gr fresh
        exact h3 F' H' fp3 v fr x1 x2 rp x3
    · exact h3.elim
  · split at h3
    · rename_i z hz
      cases rep3.1.1
      obtain ⟨x1, x2, x3⟩ := fin F3 H3 (.str (Txt.slice z l u)) [] (.refl hs) fun a ha => by cases ha
      exact .inr (.inr ⟨z, rfl, hz, h3 F3 H3 fp3 _ [] x1 x2 (.plain rfl) x3⟩)
    · exact h3.elim
  · rename_i ns
    obtain ⟨a, rfl, _, sa⟩ := rep3.1
    have sq : SqL X.K H3 a (ns.map V.int) := by
      rcases sa with ⟨u, z, ⟨o, rfl⟩ | rfl⟩ | z
      · rcases hs a _ z with y | ⟨_, y⟩
        · exact .inl (.inr ⟨o, y⟩)
        · cases y
      · exact .inl (.inl ((hs a _ z).ex rfl))
      · exact .inr z
    have ra : ∀ l : List Int, RepL X.K F3 H3 (l.map D.int) (l.map V.int) [] := fun l => by
      induction l with
      | nil => exact ⟨rfl, rfl⟩
      | cons n l ih =>
        simp only [List.map_cons, RepL]
        exact ⟨_, _, [], [], rfl, rfl, fun a h => (nomatch h), ⟨rfl, rfl⟩, ih⟩
    refine .inl ⟨a, ns.map V.int, rfl, sq, new_lst (K := X.K) hs (xs := cutD (ns.map .int) l u) ?_ fun F' H' v fr gr rp fresh => ?_⟩
    · unfold cutD cutV
      rw [List.length_map, List.length_map]
      exact ((ra ns).drop0 _).take0 _
    · obtain ⟨x1, x2, x3⟩ := fin F' H' v fr gr fresh
      exact h3 F' H' fp3 v fr x1 x2 rp x3
  · rename_i ns T
    obtain ⟨⟨a, rfl, sa⟩, _⟩ := rep3.1
    have sq : SqL X.K H3 a (ns.map V.int) := by
      rcases sa with ⟨u, z, ⟨o, rfl⟩ | rfl⟩ | z
      · rcases hs a _ z with y | ⟨_, y⟩
        · exact .inl (.inr ⟨o, y⟩)
        · cases y
      · exact .inl (.inl ((hs a _ z).ex rfl))
      · exact .inr z
    have ra : ∀ l : List Int, RepL X.K F3 H3 (l.map D.int) (l.map V.int) [] := fun l => by
      induction l with
      | nil => exact ⟨rfl, rfl⟩
      | cons n l ih =>
        simp only [List.map_cons, RepL]
        exact ⟨_, _, [], [], rfl, rfl, fun a h => (nomatch h), ⟨rfl, rfl⟩, ih⟩
    refine .inl ⟨a, ns.map V.int, rfl, sq, new_lst (K := X.K) hs (xs := cutD (ns.map .int) l u) ?_ fun F' H' v fr gr rp fresh => ?_⟩
    · unfold cutD cutV
      rw [List.length_map, List.length_map]
      exact ((ra ns).drop0 _).take0 _
    · obtain ⟨x1, x2, x3⟩ := fin F' H' v fr gr fresh
      exact h3 F' H' fp3 v fr x1 x2 rp x3
  · exact h3.elim
end
end DL
namespace DL
open PySem PySem.Spec L2
inductive So where
  | nxt (env : Evn) | ret (d : D) (env : Evn) | brk (env : Evn) | cnt (env : Evn) | exc (c : Str) (x : D) (env : Evn) | stuck
abbrev FS := Evn → So
def Rs.so {α : Type} (r : Rs α) (k : α → Evn → So) : So := match r with
  | .ok a e => k a e
  | .exc c x e => .exc c x e
  | .stuck => .stuck
@[simp] theorem Rs.so_ok {α : Type} (a : α) (e : Evn) (k : α → Evn → So) : (Rs.ok a e).so k = k a e := (rfl)
@[simp] theorem Rs.so_exc {α : Type} (c : Str) (x : D) (e : Evn) (k : α → Evn → So) : (Rs.exc c x e : Rs α).so k = .exc c x e := (rfl)
@[simp] theorem Rs.so_stuck {α : Type} (k : α → Evn → So) : (Rs.stuck : Rs α).so k = .stuck := (rfl)
section
variable (K : PySem.W.Frag)
def SPost (W : WX) (Z : Zst) (F H : Hp) (env : Evn) (fp : Fp) (D_ : Ends) : So → Prop
  | .nxt env' => ∀ F' H' fp' σ', Ev true F H env fp F' H' env' fp' → R K Z F' H' env' σ' fp' → D_.nx σ' H'
  | .brk env' => ∀ F' H' fp' σ', Ev true F H env fp F' H' env' fp' → R K Z F' H' env' σ' fp' → D_.bk σ' H'
  | .cnt env' => ∀ F' H' fp' σ', Ev true F H env fp F' H' env' fp' → R K Z F' H' env' σ' fp' → D_.ct σ' H'
  | .ret d env' => ∀ F' H' fp' σ' v fr, Ev true F H env fp F' H' env' fp' → R K Z F' H' env' σ' fp' → Rep K F' H' d v fr → KOk .own H env fp F' env' fp' fr → D_.rt v H'
  | .exc c x env' => ∀ F' H' fp' σ' dx, Ev true F H env fp F' H' env' fp' → R K Z F' H' env' σ' fp' → Rep K F' H' x (.ref dx) [] → W (.ref (He.ga K c)) (some dx) σ' H'
  | .stuck => False
def SSim (W : WX) (ms : List Nat) (t : TS) (f : FS) : Prop := ∀ Z F H env σ fp D_, (∀ p ∈ Z.pins, p.1 ∈ ms) → R K Z F H env σ fp → SPost K W Z F H env fp D_ (f env) → t D_ σ H
end
structure DS (X : Cx) (W : WX) (ms : List Nat) (st : Stmt) (f : FS) : Prop where
  ex : ∃ t, PS X st t ∧ SSim X.K W ms t f
structure DSs (X : Cx) (W : WX) (ms : List Nat) (st : List Stmt) (f : FS) : Prop where
  ex : ∃ t, PSs X st t ∧ SSim X.K W ms t f
def fNext : FS := fun env => .nxt env
def fSeq (f g : FS) : FS := fun env => match f env with
  | .nxt e => g e
  | o => o
section
variable {K : PySem.W.Frag} {W : WX} {ε : Bool} {F H F1 H1 F' H' : Hp} {env env1 env' : Evn} {fp fp1 fp' : Fp} {Z : Zst} {σ : L2.St} {D_ : Ends}
theorem SPost.seq (e : Ev ε F H env fp F1 H1 env1 fp1) {o : So} (h : SPost K W Z F H env fp D_ o) : SPost K W Z F1 H1 env1 fp1 D_ o := by
  cases o with
  | nxt e' => exact fun F' H' fp' σ' e2 r => h F' H' fp' σ' ((e.trans e2).mono (fun _ => rfl) fun z => by cases z) r
  | brk e' => exact fun F' H' fp' σ' e2 r => h F' H' fp' σ' ((e.trans e2).mono (fun _ => rfl) fun z => by cases z) r
  | cnt e' => exact fun F' H' fp' σ' e2 r => h F' H' fp' σ' ((e.trans e2).mono (fun _ => rfl) fun z => by cases z) r
  | ret d e' => exact fun F' H' fp' σ' v fr e2 r rp ko => h F' H' fp' σ' v fr ((e.trans e2).mono (fun _ => rfl) fun z => by cases z) r rp (ko.rel e)
  | exc c x e' => exact fun F' H' fp' σ' dx e2 r rp => h F' H' fp' σ' dx ((e.trans e2).mono (fun _ => rfl) fun z => by cases z) r rp
  | stuck => exact h
theorem SPost.bind {α : Type} {G1 : α → Evn → Prop} {r : Rs α} {kk : α → Evn → So} (h : SPost K W Z F H env fp D_ (r.so kk)) (i : ∀ a e, SPost K W Z F H env fp D_ (kk a e) → G1 a e) : Post K W ε Z F H env σ fp G1 r := by
  cases r with
  | ok b e' => exact i _ _ h
  | exc c x e' => exact fun F' H' fp' dx e2 r2 h2 => h F' H' fp' σ dx (e2.mono (fun _ => rfl) fun z => by cases z) r2 h2
  | stuck => exact h.elim
end
section
variable {X : Cx} {W : WX} {ε ε1 ε2 : Bool} {k k1 k2 : Kd} {ks : List Kd} {ms : List Nat} {e a b c : Expr} {es : List Expr} {st : Stmt} {sts rest : List Stmt} {f g : FS} {fe fa fb : FE} {ft : FT} {pos : Pos}
theorem dss_nil : DSs X W ms [] fNext := ⟨_, pss_nil, fun Z F H env σ fp D_ _ r h => h F H fp σ (Ev.refl (Z := Z) _ rfl) r⟩
theorem dss_cons (h1 : DS X W ms st f) (h2 : DSs X W ms rest g) : DSs X W ms (st :: rest) (fSeq f g) := by
  obtain ⟨t1, p1, s1⟩ := h1.ex
  obtain ⟨t2, p2, s2⟩ := h2.ex
  refine ⟨_, pss_cons p1 p2, fun Z F H env σ fp D_ hm r h => ?_⟩
  refine s1 Z F H env σ fp { D_ with nx := t2 D_ } hm r ?_
  unfold fSeq at h
  cases q : f env with
  | nxt e1 =>
    rw [q] at h
    exact fun F' H' fp' σ' ev r' => s2 Z F' H' e1 σ' fp' D_ hm r' (h.seq ev)
  | ret d e1 => rw [q] at h; exact h
  | brk e1 => rw [q] at h; exact h
  | cnt e1 => rw [q] at h; exact h
  | exc c x e1 => rw [q] at h; exact h
  | stuck => rw [q] at h; exact h
theorem dss_one (h1 : DS X W ms st f) : DSs X W ms [st] f := by
  obtain ⟨t1, p1, s1⟩ := h1.ex
  exact ⟨_, pss_one p1, s1⟩
def fBrk : FS := fun env => .brk env
def fCnt : FS := fun env => .cnt env
def fExpr (fe : FE) : FS := fun env => (fe env).so fun _ e => .nxt e
theorem ds_expr (h : DE X W ε k e fe) (hs : swapsWith e none pos.line X.env = pure false := by rfl) : DS X W ms (.Expr e pos) (fExpr fe) := by
  obtain ⟨t, q, s⟩ := h.ex
  refine ⟨_, ps_expr q hs, fun Z F H env σ fp D_ _ r h => s Z F H env σ fp _ r (SPost.bind h fun d e1 h1 F1 H1 fp1 v fr ev r1 _ _ => h1 F1 H1 fp1 σ (ev.mono (fun _ => rfl) fun z => by cases z) r1)⟩
def fRet (fe : FE) : FS := fun env => (fe env).so fun d e => .ret d e
theorem ds_ret (h : DE X W ε .own e fe) : DS X W ms (.Return (some e) pos) (fRet fe) := by
  obtain ⟨t, q, s⟩ := h.ex
  refine ⟨_, ps_ret q, fun Z F H env σ fp D_ _ r h => s Z F H env σ fp _ r (SPost.bind h fun d e1 h1 F1 H1 fp1 v fr ev r1 rp ko => h1 F1 H1 fp1 σ v fr (ev.mono (fun _ => rfl) fun z => by cases z) r1 rp ko)⟩
def fIfS (t : FT) (f g : FS) : FS := fun env => (t env).so fun b e => if b = true then f e else g e
theorem ds_if (hc : DT X W ε c ft) (ha : DSs X W ms sts f) (hb : DSs X W ms rest g) : DS X W ms (.If c sts rest pos) (fIfS ft f g) := by
  obtain ⟨t1, p1, s1⟩ := hc.ex
  obtain ⟨t2, p2, s2⟩ := ha.ex
  obtain ⟨t3, p3, s3⟩ := hb.ex
  refine ⟨_, ps_if p1 p2 p3, fun Z F H env σ fp D_ hm r h => s1 Z F H env σ fp _ r (SPost.bind h fun b e1 h1 F1 H1 fp1 ev r1 => ?_)⟩
  cases b with
  | true => exact s2 Z F1 H1 e1 σ fp1 D_ hm r1 (h1.seq ev)
  | false => exact s3 Z F1 H1 e1 σ fp1 D_ hm r1 (h1.seq ev)
inductive Md where
  | own | bor (r : Option Nat)
def VMo (H0 : Hp) (env0 : Evn) (fp0 : Fp) (Z : Zst) (F H : Hp) (env : Evn) (fp : Fp) (fr : List Addr) : Md → Prop
  | .own => ∀ a ∈ fr, (H0 a = none ∨ OwnA env0 fp0 a) ∧ (∀ j, hold env j → a ∉ fp j) ∧ (¬ Z.B a ∧ F a = none) ∧ NF H a
  | .bor none => ∀ a ∈ fr, Z.B a
  | .bor (some j) => hold env j ∧ ∀ a ∈ fr, a ∈ fp j
def HoldA (env : Evn) (fp : Fp) (a : Addr) : Prop := ∃ i, hold env i ∧ a ∈ fp i
def SubA (H : Hp) (env env' : Evn) (fp fp' : Fp) (fr : List Addr) : Prop := (∀ a, OwnA env' fp' a → OwnA env fp a ∨ a ∈ fr ∨ H a = none) ∧ ∀ a, LkA env' fp' a → LkA env fp a
theorem SubA.hold {H : Hp} {env env' : Evn} {fp fp' : Fp} {fr : List Addr} (h : SubA H env env' fp fp' fr) {a : Addr} (x : HoldA env' fp' a) : HoldA env fp a ∨ a ∈ fr ∨ H a = none := by
  obtain ⟨i, hi | hi, ha⟩ := x
  · exact (h.1 a ⟨i, hi, ha⟩).imp (fun ⟨j, hj, hm⟩ => ⟨j, .inl hj, hm⟩) id
  · obtain ⟨j, hj, hm⟩ := h.2 a ⟨i, hi, ha⟩
    exact .inl ⟨j, .inr hj, hm⟩
theorem SubA.refl {H : Hp} {env : Evn} {fp : Fp} {fr : List Addr} : SubA H env env fp fp fr := ⟨fun _ h => .inl h, fun _ h => h⟩
structure Md.keeps (md : Md) (fr : List Addr) (F H F' H' : Hp) (env env' : Evn) (fp fp' : Fp) : Prop where
  keep : ∀ a o, H a = some o → ¬ OwnA env fp a → a ∉ fr → H' a = some o
  dom : ∀ a, H a ≠ none → H' a ≠ none
  nofz : ∀ a o u, H' a = some (.frz o u) → H a = some (.frz o u)
  bor : ∀ j, md = .bor (some j) → (hold env' j ∧ fp' j = fp j) ∧ ∀ a ∈ fp j, ∀ o, H a = some o → H' a = some o
  sub : ∀ a u, F a = some u → F' a = some u
  new : ∀ a, F a = none → F' a ≠ none → H a = none
theorem Md.keeps.here {md : Md} {fr : List Addr} {F H : Hp} {env env' : Evn} {fp fp' : Fp} (h : ∀ j, md = .bor (some j) → hold env' j ∧ fp' j = fp j) : md.keeps fr F H F H env env' fp fp' :=
  ⟨fun a o h _ _ => h, fun a h => h, fun _ _ _ h => h, fun j e => ⟨h j e, fun a _ o h => h⟩, fun _ _ h => h, fun a h n => absurd h n⟩
def GSim (K : PySem.W.Frag) (b : Bool) (ms : List Nat) (t : TG) (g : Md → D → Evn → Option Evn) : Prop := ∀ Z F0 H0 env0 fp0 F H env σ fp v d fr md Q, (∀ p ∈ Z.pins, p.1 ∈ ms) → Ev true F0 H0 env0 fp0 F H env fp → R K Z F H env σ fp →
  Rep K F H d v fr → VMo H0 env0 fp0 Z F H env fp fr md → (∃ env', g md d env = some env' ∧ ∀ σ' F' H' fp', (b = true → Grow F H F' H') → Ev true F0 H0 env0 fp0 F' H' env' fp' → R K Z F' H' env' σ' fp' → SubA H env env' fp fp' fr → md.keeps fr F H F' H' env env' fp fp' → Q σ' H') → t v σ H Q
def GsSim (K : PySem.W.Frag) (b : Bool) (ms : List Nat) (t : TGs) (g : Md → List D → Evn → Option Evn) : Prop := ∀ Z F0 H0 env0 fp0 F H env σ fp vs ds fr md Q, (∀ p ∈ Z.pins, p.1 ∈ ms) → Ev true F0 H0 env0 fp0 F H env fp → R K Z F H env σ fp →
  RepL K F H ds vs fr → VMo H0 env0 fp0 Z F H env fp fr md → (∃ env', g md ds env = some env' ∧ ∀ σ' F' H' fp', (b = true → Grow F H F' H') → Ev true F0 H0 env0 fp0 F' H' env' fp' → R K Z F' H' env' σ' fp' → SubA H env env' fp fp' fr → md.keeps fr F H F' H' env env' fp fp' → Q σ' H') → t vs σ H Q
mutual
def tgPure : Expr → Bool
  | .Name _ _ => true
  | .Tuple es _ _ => tgPures es
  | .Starred e _ => tgPure e
  | _ => false
def tgPures : List Expr → Bool
  | [] => true
  | e :: es => tgPure e && tgPures es
end
structure DG (X : Cx) (ms : List Nat) (tg : Expr) (g : Md → D → Evn → Option Evn) : Prop where
  ex : ∃ t, PG X tg t ∧ GSim X.K (tgPure tg) ms t g
structure DGs (X : Cx) (ms : List Nat) (tg : List Expr) (g : Md → List D → Evn → Option Evn) : Prop where
  ex : ∃ t, PGs X tg t ∧ GsSim X.K (tgPures tg) ms t g
def gNm (i : Nat) : Md → D → Evn → Option Evn := fun md d env => if i < env.length then (match md with
  | .own => some (putE i (.own d) env)
  | .bor r => if r = some i then none else some (putE i (if d.frz = true then .own d else .bor r d) env)) else none
theorem gsim_name {K : PySem.W.Frag} {b : Bool} {i : Nat} (hi : i ∉ ms) : GSim K b ms (gName i) (gNm i) := by
  intro Z F0 H0 env0 fp0 F H env σ fp v d fr md Q hm e0 r rep vm ⟨env', hg, hq⟩
  unfold gNm at hg
  split at hg
  case isFalse => cases hg
  rename_i hlen
  have hσ : ∀ j, j ≠ i → (σ.set i (some v))[j]? = σ[j]? := fun j hj => List.getElem?_set_ne (Ne.symm hj)
  have hl : (σ.set i (some v)).length = σ.length := List.length_set ..
  have hself : (σ.set i (some v))[i]? = some (some v) := List.getElem?_set_self (by rw [r.len.1, ← r.len.2]; exact hlen)
  have hpin : ∀ p ∈ Z.pins, (σ.set i (some v))[p.1]? = some p.2 := fun p hp => by
    have ne : p.1 ≠ i := fun z => hi (z ▸ hm p hp)
    rw [hσ _ ne]
    exact r.pin p hp
  have holdsub : ∀ {s : Sl} {f' : List Addr}, (∀ d, s = .own d → ∀ a ∈ f', a ∈ fr) → (∀ d, s ≠ .bor (some i) d) → SubA H env (putE i s env) fp (fset fp i f') fr := by
    intro s f' h1 h2
    refine ⟨fun a ⟨j, hj, ha⟩ => ?_, fun a ⟨j, hj, ha⟩ => ?_⟩
    · by_cases hji : j = i
      · subst hji
        rw [fset_same] at ha
        obtain ⟨d', q⟩ := hj
        rw [putE_same hlen] at q
        cases q
        exact .inr (.inl (h1 d' rfl a ha))
      · rw [fset_ne hji] at ha
        exact .inl ⟨j, (isOwn_put hji).mp hj, ha⟩
    · by_cases hji : j = i
      · subst hji
        obtain ⟨d', q⟩ := hj
        rw [putE_same hlen] at q
        cases q
        exact absurd rfl (h2 d')
      · rw [fset_ne hji] at ha
        exact ⟨j, (isLk_put hji).mp hj, ha⟩
  cases md with
  | own =>
    cases hg
    refine hq _ F H (fset fp i fr) (fun _ => Grow.refl r.sub) (e0.put hlen (fun d' hd a ha => (vm a ha).1) fun d' h => by cases h) (r.put hlen hσ hl hpin ⟨⟨v, hself, rep⟩, fun j hj hh a ha => (vm a ha).2.1 j hh, fun a ha => (vm a ha).2.2⟩) (holdsub (fun d' _ a ha => ha) fun d' h => by cases h) (.here fun j h => by cases h)
  | bor m =>
    have hg' : (if m = some i then none else some (putE i (if d.frz = true then .own d else .bor m d) env)) = some env' := hg
    split at hg'
    case isTrue => cases hg'
    rename_i hmi
    cases hg'
    have hk : ∀ (s : Sl) (f' : List Addr), Md.keeps (.bor m) fr F H F H env (putE i s env) fp (fset fp i f') := fun s f' => .here fun j h => by
      cases h
      have hji : j ≠ i := fun z => hmi (by rw [z])
      exact ⟨(hold_put hji).mpr vm.1, fset_ne hji⟩
    by_cases hz : d.frz = true
    · rw [if_pos hz] at hq
      have e := Rep.frz_nil d v fr hz rep
      subst e
      refine hq _ F H (fset fp i []) (fun _ => Grow.refl r.sub) (e0.put hlen (fun d' hd a ha => by cases ha) fun d' h => by cases h) (r.put hlen hσ hl hpin ⟨⟨v, hself, rep⟩, fun j hj hh a ha => (by cases ha), fun a ha => (by cases ha)⟩) (holdsub (fun d' _ a ha => ha) fun d' h => by cases h) (hk _ _)
    · rw [if_neg hz] at hq
      refine hq _ F H (fset fp i fr) (fun _ => Grow.refl r.sub) (e0.put hlen (fun d' hd => by cases hd) fun d' h => by cases h; exact hmi rfl) (r.put hlen hσ hl hpin ?_) (holdsub (fun d' h => by cases h) fun d' h => by cases h; exact hmi rfl) (hk _ _)
      cases m with
      | none => exact ⟨v, hself, rep, vm⟩
      | some j => exact ⟨fun z => hmi (by rw [z]), vm.1, v, hself, rep, vm.2⟩
theorem dg_name (i : Nat) {x : Str} (hN : X.N.Nodup) (hm : i ∉ ms := by decide) (hi : X.N[i]? = some x := by rfl) (hx : Loc X.env.scope x := by first | exact Or.inl rfl | exact Or.inr rfl) (hf : X.fn x = true ∨ X.env.scope.names.lookup x = some .local := by first | exact .inl rfl | exact .inr rfl | assumption) :
    DG X ms (.Name x pos) (gNm i) := ⟨_, pg_name hN hi hx hf, gsim_name hm⟩
def gsNil : Md → List D → Evn → Option Evn := fun _ ds env => match ds with
  | [] => some env
  | _ => none
def gsCons (g : Md → D → Evn → Option Evn) (gs : Md → List D → Evn → Option Evn) : Md → List D → Evn → Option Evn := fun md ds env => match ds with
  | d :: ds => (g md d env).bind (gs md ds)
  | [] => none
theorem gssim_nil {K : PySem.W.Frag} {b : Bool} : GsSim K b ms gNil gsNil := fun Z F0 H0 env0 fp0 F H env σ fp vs ds fr md Q hm e0 r rep vm ⟨env', hg, hq⟩ => by
  cases ds with
  | nil =>
    cases hg
    cases rep.1
    exact ⟨rfl, hq σ F H fp (fun _ => Grow.refl r.sub) e0 r .refl (.here fun j h => by subst h; exact ⟨vm.1, rfl⟩)⟩
  | cons d ds => cases hg
theorem VMo.left {H0 : Hp} {env0 env : Evn} {fp0 fp : Fp} {Z : Zst} {F H : Hp} {f1 f2 : List Addr} {md : Md} (h : VMo H0 env0 fp0 Z F H env fp (f1 ++ f2) md) : VMo H0 env0 fp0 Z F H env fp f1 md := by
  cases md with
  | own => exact fun a ha => h a (List.mem_append_left _ ha)
  | bor m =>
    cases m with
    | none => exact fun a ha => h a (List.mem_append_left _ ha)
    | some j => exact ⟨h.1, fun a ha => h.2 a (List.mem_append_left _ ha)⟩
theorem gssim_cons {K : PySem.W.Frag} {b1 b2 : Bool} {t1 : TG} {t2 : TGs} {g : Md → D → Evn → Option Evn} {gs : Md → List D → Evn → Option Evn} (s1 : GSim K b1 ms t1 g) (s2 : GsSim K b2 ms t2 gs) : GsSim K (b1 && b2) ms (gCons t1 t2) (gsCons g gs) := by
  intro Z F0 H0 env0 fp0 F H env σ fp vs ds fr md Q hm e0 r rep vm ⟨env', hg, hq⟩
  cases ds with
  | nil => cases hg
  | cons d ds =>
    simp only [RepL] at rep
    obtain ⟨v, ws, f1, f2, rfl, rfl, h1, h2, h3⟩ := rep
    have hg' : (g md d env).bind (gs md ds) = some env' := hg
    rw [Option.bind_eq_some_iff] at hg'
    obtain ⟨e1, g1, g2⟩ := hg'
    have kp : ∀ {F1 H1 e1 fp1}, Md.keeps md f1 F H F1 H1 env e1 fp fp1 → ∀ a ∈ f2, ∀ o, H a = some o → H1 a = some o := fun hk a ha o ho => by
      have n1 : a ∉ f1 := fun z => h1 a z ha
      cases md with
      | own => exact hk.keep a o ho (fun ⟨j, hj, hm⟩ => (vm a (List.mem_append_right _ ha)).2.1 j (.inl hj) hm) n1
      | bor m =>
        cases m with
        | none => exact hk.keep a o ho (fun z => r.own_B z (vm a (List.mem_append_right _ ha))) n1
        | some j => exact (hk.bor j rfl).2 a (vm.2 a (List.mem_append_right _ ha)) o ho
    refine ⟨v, ws, rfl, s1 Z F0 H0 env0 fp0 F H env σ fp v d f1 md _ hm e0 r h2 vm.left ⟨e1, g1, fun σ1 F1 H1 fp1 gr1 ev1 r1 hh hk => ?_⟩⟩
    refine s2 Z F0 H0 env0 fp0 F1 H1 e1 σ1 fp1 ws ds f2 md Q hm ev1 r1 (RepL.mono hk.sub ds ws f2 (fun a ha u hu => hu.same fun o ho => kp hk a ha o ho) h3) ?_ ⟨env', g2, fun σ2 F2 H2 fp2 gr2 ev2 r2 hh2 hk2 => hq σ2 F2 H2 fp2 (fun hb => (gr1 (Bool.and_eq_true_iff.mp hb).1).trans (gr2 (Bool.and_eq_true_iff.mp hb).2)) ev2 r2 ⟨fun a h => ?_, fun a h => hh.2 a (hh2.2 a h)⟩ ⟨fun a o ho hn hf => ?_, fun a h => hk2.dom a (hk.dom a h), fun a o u h => hk.nofz a o u (hk2.nofz a o u h), fun j h => ?_, fun a u h => hk2.sub a u (hk.sub a u h), fun a h n => ?_⟩⟩
    · cases md with
      | own =>
        intro a ha
        obtain ⟨q1, q2, q3, q4⟩ := vm a (List.mem_append_right _ ha)
        refine ⟨q1, fun j hj hm => ?_, ⟨q3.1, ?_⟩, fun o u ho => q4 o u (hk.nofz a o u ho)⟩
        rcases hh.hold ⟨j, hj, hm⟩ with ⟨i, hi, hai⟩ | z | z
        · exact q2 i hi hai
        · exact h1 a z ha
        · exact RepL.dom ds ws f2 h3 a ha z
        · cases q : F1 a with
          | none => rfl
          | some u => exact absurd (hk.new a q3.2 (by rw [q]; exact fun z => by cases z)) (RepL.dom ds ws f2 h3 a ha)
      | bor m =>
        cases m with
        | none => exact fun a ha => vm a (List.mem_append_right _ ha)
        | some j =>
          obtain ⟨⟨k1, k2⟩, _⟩ := hk.bor j rfl
          exact ⟨k1, fun a ha => by rw [k2]; exact vm.2 a (List.mem_append_right _ ha)⟩
    · rcases hh2.1 a h with z | z | z
      · rcases hh.1 a z with z | z | z
        · exact .inl z
        · exact .inr (.inl (List.mem_append_left _ z))
        · exact .inr (.inr z)
      · exact .inr (.inl (List.mem_append_right _ z))
      · refine .inr (.inr ?_)
        cases q : H a with
        | none => rfl
        | some o => exact absurd z (hk.dom a (by rw [q]; exact fun y => by cases y))
    · refine hk2.keep a o (hk.keep a o ho hn fun z => hf (List.mem_append_left _ z)) (fun z => ?_) fun z => hf (List.mem_append_right _ z)
      rcases hh.1 a z with z | z | z
      · exact hn z
      · exact hf (List.mem_append_left _ z)
      · rw [z] at ho; cases ho
    · obtain ⟨⟨k1, k2⟩, k5⟩ := hk.bor j h
      obtain ⟨⟨k3, k4⟩, k6⟩ := hk2.bor j h
      exact ⟨⟨k3, by rw [k4, k2]⟩, fun a ha o ho => k6 a (by rw [k2]; exact ha) o (k5 a ha o ho)⟩
    · cases q : F1 a with
      | none =>
        have z := hk2.new a q n
        cases w : H a with
        | none => rfl
        | some o => exact absurd z (hk.dom a (by rw [w]; exact fun z => by cases z))
      | some u => exact hk.new a h (by rw [q]; exact fun z => by cases z)
theorem dgs_cons {tg : Expr} {tgs : List Expr} {g : Md → D → Evn → Option Evn} {gs : Md → List D → Evn → Option Evn} (h1 : DG X ms tg g) (h2 : DGs X ms tgs gs)
    (hs : (assignEach (tg :: tgs) X.env).map (·.2) = assign tg X.env :: (assignEach tgs X.env).map (·.2) := by rfl) : DGs X ms (tg :: tgs) (gsCons g gs) := by
  obtain ⟨t1, p1, s1⟩ := h1.ex
  obtain ⟨t2, p2, s2⟩ := h2.ex
  exact ⟨_, pgs_cons p1 p2 hs, gssim_cons s1 s2⟩
def gTu (gs : Md → List D → Evn → Option Evn) : Md → D → Evn → Option Evn := fun md d env => match d with
  | .node _ .tup xs => gs md xs env
  | _ => none
theorem VMo.sub {H0 : Hp} {env0 env : Evn} {fp0 fp : Fp} {Z : Zst} {F H : Hp} {f1 f2 : List Addr} {md : Md} (h : VMo H0 env0 fp0 Z F H env fp f1 md) (s : ∀ a ∈ f2, a ∈ f1) : VMo H0 env0 fp0 Z F H env fp f2 md := by
  cases md with
  | own => exact fun a ha => h a (s a ha)
  | bor m =>
    cases m with
    | none => exact fun a ha => h a (s a ha)
    | some j => exact ⟨h.1, fun a ha => h.2 a (s a ha)⟩
theorem SubA.sub {H : Hp} {env env' : Evn} {fp fp' : Fp} {f1 f2 : List Addr} (h : SubA H env env' fp fp' f1) (s : ∀ a ∈ f1, a ∈ f2) : SubA H env env' fp fp' f2 := ⟨fun a x => (h.1 a x).imp id fun y => y.imp (s a) id, h.2⟩
def optS (o : Option Evn) : So := match o with
  | some e => .nxt e
  | none => .stuck
@[simp] theorem optS_some (e : Evn) : optS (some e) = .nxt e := (rfl)
@[simp] theorem optS_none : optS none = .stuck := (rfl)
def mdOf (k : Kd) (env : Evn) : Option Md := match k with
  | .own => some .own
  | .frz => some .own
  | .bor j => match env[j]? with
    | some (.own _) => some (.bor (some j))
    | some (.bor r _) => some (.bor r)
    | _ => none
theorem VMo.of_kd {K : PySem.W.Frag} {Z : Zst} {F0 H0 F H : Hp} {env0 env : Evn} {fp0 fp : Fp} {σ0 σ : L2.St} {fr : List Addr} {md : Md} (r0 : R K Z F0 H0 env0 σ0 fp0) (e : Ev ε F0 H0 env0 fp0 F H env fp) (r : R K Z F H env σ fp) (x : KOk k H0 env0 fp0 F env fp fr) (h : mdOf k env = some md) :
    VMo H0 env0 fp0 Z F H env fp fr md := by
  cases k with
  | own =>
    cases h
    have ap := r0.apart e x
    exact fun a ha => ⟨(x a ha).1, fun j hj => ap.1 j hj a ha, ap.2 a ha⟩
  | frz =>
    cases h
    have e : fr = [] := x
    subst e
    exact fun a ha => by cases ha
  | bor j =>
    obtain ⟨x1, x2⟩ := x
    have s := r.slot j
    unfold SlotR at s
    have h' : (match env[j]? with
      | some (.own _) => some (Md.bor (some j))
      | some (.bor r _) => some (Md.bor r)
      | _ => none) = some md := h
    cases q : env[j]? with
    | none => rw [q] at h'; cases h'
    | some t =>
      rw [q] at h' s
      cases t with
      | dead => cases h'
      | own d =>
        cases h'
        exact ⟨.inl ⟨d, q⟩, x2⟩
      | bor m d =>
        cases h'
        cases m with
        | none =>
          obtain ⟨v, _, _, h3⟩ := s
          exact fun a ha => h3 a (x2 a ha)
        | some m =>
          obtain ⟨v, _, _, h3, h4⟩ := s
          exact ⟨h3, fun a ha => h4 a (x2 a ha)⟩
def fAsg (k : Kd) (fe : FE) (g : Md → D → Evn → Option Evn) : FS := fun env => (fe env).so fun d e => optS ((mdOf k e).bind fun md => g md d e)
theorem ds_asg {tg : Expr} {g : Md → D → Evn → Option Evn} (he : DE X W ε k e fe) (hg : DG X ms tg g) (hs : swapsWithSole [tg] e pos.line X.env = pure false := by rfl) (hw : swappedStores [tg] e X.env = pure none := by rfl) (h1' : (assignEach [tg] X.env).map (·.2) = [assign tg X.env] := by rfl) : DS X W ms (.Assign [tg] e pos) (fAsg k fe g) := by
  obtain ⟨t1, p1, s1⟩ := he.ex
  obtain ⟨t2, p2, s2⟩ := hg.ex
  refine ⟨_, ps_asg p1 p2 hs hw h1', fun Z F H env σ fp D_ hm r h => s1 Z F H env σ fp _ r (SPost.bind h fun d e1 h1 F1 H1 fp1 v fr ev r1 rp ko => ?_)⟩
  cases q : (mdOf k e1).bind fun md => g md d e1 with
  | none => rw [q] at h1; exact h1.elim
  | some e2 =>
    rw [q] at h1
    rw [Option.bind_eq_some_iff] at q
    obtain ⟨md, q1, q2⟩ := q
    exact s2 Z F H env fp F1 H1 e1 σ fp1 v d fr md _ hm (ev.mono (fun _ => rfl) fun z => by cases z) r1 rp (VMo.of_kd r ev r1 ko q1) ⟨e2, q2, fun σ' F' H' fp' _ ev' r' _ _ => h1 F' H' fp' σ' ev' r'⟩
theorem ds_set (i : Nat) {x : Str} {pos' : Pos} (hN : X.N.Nodup) (he : DE X W ε k e fe) (hm : i ∉ ms := by decide) (hi : X.N[i]? = some x := by rfl) (hx : Loc X.env.scope x := by first | exact Or.inl rfl | exact Or.inr rfl) (hs : swapsWith e (some (.Name x pos')) pos.line X.env = pure false := by rfl)
    (hf : X.fn x = true ∨ X.env.scope.names.lookup x = some .local := by first | exact .inl rfl | exact .inr rfl | assumption) : DS X W ms (.Assign [.Name x pos'] e pos) (fAsg k fe (gNm i)) := by
  obtain ⟨t1, p1, s1⟩ := he.ex
  refine ⟨_, ps_set hN hi hx p1 hs hf, fun Z F H env σ fp D_ hm' r h => s1 Z F H env σ fp _ r (SPost.bind h fun d e1 h1 F1 H1 fp1 v fr ev r1 rp ko => ?_)⟩
  cases q : (mdOf k e1).bind fun md => gNm i md d e1 with
  | none => rw [q] at h1; exact h1.elim
  | some e2 =>
    rw [q] at h1
    rw [Option.bind_eq_some_iff] at q
    obtain ⟨md, q1, q2⟩ := q
    exact gsim_name (b := true) hm Z F H env fp F1 H1 e1 σ fp1 v d fr md D_.nx hm' (ev.mono (fun _ => rfl) fun z => by cases z) r1 rp (VMo.of_kd r ev r1 ko q1) ⟨e2, q2, fun σ' F' H' fp' _ ev' r' _ _ => h1 F' H' fp' σ' ev' r'⟩
end
end DL
namespace DL
open PySem PySem.Spec L2
inductive Fo where
  | ret (d : D) (ms : List D) | exc (c : Str) (x : D) (ms : List D) | stuck
def MutA (kinds : List Bool) (frs : List (List Addr)) (a : Addr) : Prop := ∃ (i : Nat) (f : List Addr), kinds[i]? = some true ∧ frs[i]? = some f ∧ a ∈ f
structure ArgSep (F H : Hp) (kinds : List Bool) (frs : List (List Addr)) : Prop where
  apart : ∀ (i j : Nat) (fi fj : List Addr), i ≠ j → kinds[i]? = some true → frs[i]? = some fi → frs[j]? = some fj → ∀ a ∈ fi, a ∉ fj
  hF : ∀ (i : Nat) (fi : List Addr), kinds[i]? = some true → frs[i]? = some fi → ∀ a ∈ fi, F a = none
  nf : ∀ (i : Nat) (fi : List Addr), kinds[i]? = some true → frs[i]? = some fi → ∀ a ∈ fi, NF H a
structure FEv (F H : Hp) (M : Addr → Prop) (F' H' : Hp) : Prop where
  keep : ∀ a o, H a = some o → ¬ M a → H' a = some o
  sub : ∀ a u, F a = some u → F' a = some u
  new : ∀ a, F a = none → F' a ≠ none → H a = none ∨ M a
  dom : ∀ a, H a ≠ none → H' a ≠ none
  has : ∀ a u, F' a = some u → Has H' a u
  nofz : ∀ a o u, H' a = some (.frz o u) → H a = some (.frz o u)
def mvs {α : Type} : List Bool → List α → List α
  | true :: ks, v :: vs => v :: mvs ks vs
  | false :: ks, _ :: vs => mvs ks vs
  | _, _ => []
section
variable (K : PySem.W.Frag)
structure Muts (H : Hp) (M : Addr → Prop) (F' H' : Hp) (kinds : List Bool) (vs : List V) (ms : List D) (nfs : List (List Addr)) : Prop where
  rep : RepA K F' H' ms (mvs kinds vs) nfs
  apart : ∀ (i j : Nat) (fi fj : List Addr), i ≠ j → nfs[i]? = some fi → nfs[j]? = some fj → ∀ a ∈ fi, a ∉ fj
  own : ∀ f ∈ nfs, ∀ a ∈ f, (H a = none ∨ M a) ∧ F' a = none
def FPost (F H : Hp) (kinds : List Bool) (vs : List V) (M : Addr → Prop) (Q : VK) (E : XK) : Fo → Prop
  | .ret d ms => ∀ F' H' v fr nfs, FEv F H M F' H' → Rep K F' H' d v fr → Muts K H M F' H' kinds vs ms nfs → (∀ a ∈ fr, (H a = none ∨ M a) ∧ F' a = none ∧ ∀ f ∈ nfs, a ∉ f) → Q v H'
  | .exc c x ms => ∀ F' H' dx nfs, FEv F H M F' H' → Rep K F' H' x (.ref dx) [] → Muts K H M F' H' kinds vs ms nfs → E (.ref (He.ga K c)) (some dx) H'
  | .stuck => False
def spD (kinds : List Bool) (Fx : List D → Fo) : Sp := fun vs H Q E => ∃ (F : Hp) (ds : List D) (frs : List (List Addr)), (∀ a u, F a = some u → Has H a u) ∧ RepA K F H ds vs frs ∧ kinds.length = ds.length ∧ ArgSep F H kinds frs ∧
  FPost K F H kinds vs (MutA kinds frs) Q E (Fx ds)
end
def initE (kinds : List Bool) (ds : List D) (n : Nat) : Evn := (List.zipWith (fun (b : Bool) d => if b = true then Sl.own d else Sl.bor none d) kinds ds) ++ List.replicate (n - ds.length) .dead
def getMi : List Bool → Nat → Evn → Option (List D)
  | [], _, _ => some []
  | true :: ks, i, env => match env[i]? with
    | some (.own d) => (getMi ks (i + 1) env).map (d :: ·)
    | _ => none
  | false :: ks, i, env => getMi ks (i + 1) env
def optF (o : Option (List D)) (k : List D → Fo) : Fo := match o with
  | some ms => k ms
  | none => .stuck
@[simp] theorem optF_some (ms : List D) (k : List D → Fo) : optF (some ms) k = k ms := (rfl)
@[simp] theorem optF_none (k : List D → Fo) : optF none k = .stuck := (rfl)
def endF (kinds : List Bool) : So → Fo
  | .nxt e => optF (getMi kinds 0 e) (.ret .non)
  | .ret d e => optF (getMi kinds 0 e) (.ret d)
  | .exc c x e => optF (getMi kinds 0 e) (.exc c x)
  | _ => .stuck
def runF (kinds : List Bool) (n : Nat) (fb : FS) (ds : List D) : Fo := endF kinds (fb (initE kinds ds n))
def mutIx : List Bool → Nat → List Nat
  | [], _ => []
  | true :: ks, i => i :: mutIx ks (i + 1)
  | false :: ks, i => mutIx ks (i + 1)
theorem mem_mutIx : ∀ {ks : List Bool} {i j : Nat}, j ∈ mutIx ks i ↔ ∃ m, ks[m]? = some true ∧ j = i + m
  | [], i, j => by simp [mutIx]
  | true :: ks, i, j => by
    rw [mutIx, List.mem_cons, mem_mutIx]
    constructor
    · rintro (rfl | ⟨m, h1, h2⟩)
      · exact ⟨0, rfl, rfl⟩
      · exact ⟨m + 1, by simpa using h1, by omega⟩
    · rintro ⟨m, h1, h2⟩
      cases m with
      | zero => exact .inl (by omega)
      | succ m => exact .inr ⟨m, by simpa using h1, by omega⟩
  | false :: ks, i, j => by
    rw [mutIx, mem_mutIx]
    constructor
    · rintro ⟨m, h1, h2⟩
      exact ⟨m + 1, by simpa using h1, by omega⟩
    · rintro ⟨m, h1, h2⟩
      cases m with
      | zero => simp at h1
      | succ m => exact ⟨m, by simpa using h1, by omega⟩
theorem RepA.lens {K : PySem.W.Frag} {F H : Hp} : ∀ {ds : List D} {vs : List V} {frs : List (List Addr)}, RepA K F H ds vs frs → vs.length = ds.length ∧ frs.length = ds.length
  | [], vs, frs, h => by
    obtain ⟨rfl, rfl⟩ := h.inv0
    exact ⟨rfl, rfl⟩
  | d :: ds, vs, frs, h => by
    obtain ⟨v, ws, f, fs, rfl, rfl, h1, h2⟩ := h.inv
    obtain ⟨a, b⟩ := RepA.lens h2
    exact ⟨by rw [List.length_cons, List.length_cons, a], by rw [List.length_cons, List.length_cons, b]⟩
theorem RepA.get {K : PySem.W.Frag} {F H : Hp} : ∀ {ds : List D} {vs : List V} {frs : List (List Addr)} {i : Nat} {d : D}, RepA K F H ds vs frs → ds[i]? = some d → ∃ v f, vs[i]? = some v ∧ frs[i]? = some f ∧ Rep K F H d v f
  | [], vs, frs, i, d, h, e => by simp at e
  | d' :: ds, vs, frs, 0, d, h, e => by
    obtain ⟨v, ws, f, fs, rfl, rfl, h1, h2⟩ := h.inv
    simp at e
    subst e
    exact ⟨v, f, rfl, rfl, h1⟩
  | d' :: ds, vs, frs, i + 1, d, h, e => by
    obtain ⟨v, ws, f, fs, rfl, rfl, h1, h2⟩ := h.inv
    obtain ⟨v', f', e1, e2, e3⟩ := RepA.get (i := i) h2 (by simpa using e)
    exact ⟨v', f', by simpa using e1, by simpa using e2, e3⟩
theorem initE_get {kinds : List Bool} {ds : List D} {n i : Nat} (hl : kinds.length = ds.length) : (initE kinds ds n)[i]? = if i < ds.length then (match kinds[i]?, ds[i]? with
    | some b, some d => some (if b = true then Sl.own d else .bor none d)
    | _, _ => none) else if i < ds.length + (n - ds.length) then some .dead else none := by
  unfold initE
  have hz : (List.zipWith (fun (b : Bool) d => if b = true then Sl.own d else Sl.bor none d) kinds ds).length = ds.length := by rw [List.length_zipWith, hl]; simp
  by_cases h : i < ds.length
  · rw [if_pos h, List.getElem?_append_left (by rw [hz]; exact h), List.getElem?_zipWith]
    cases kinds[i]? <;> cases ds[i]? <;> rfl
  · rw [if_neg h, List.getElem?_append_right (by rw [hz]; omega), hz, List.getElem?_replicate]
    by_cases h2 : i < ds.length + (n - ds.length)
    · rw [if_pos h2, if_pos (by omega)]
    · rw [if_neg h2, if_neg (by omega)]
section
variable {K : PySem.W.Frag}
def fp0 (frs : List (List Addr)) : Fp := fun i => frs.getD i []
def Z0 (n : Nat) (H : Hp) (kinds : List Bool) (frs : List (List Addr)) (vs : List V) : Zst where
  B := fun a => (∃ (i : Nat) (f : List Addr), kinds[i]? = some false ∧ frs[i]? = some f ∧ a ∈ f) ∨ ∃ o u, H a = some (.frz o u)
  pins := (mutIx kinds 0).filterMap fun i => (vs[i]?).map fun v => (i, some v)
  n := n
  gh := []
theorem Z0_pins {n : Nat} {H : Hp} {kinds : List Bool} {frs : List (List Addr)} {vs : List V} {p : Nat × Option V} (h : p ∈ (Z0 n H kinds frs vs).pins) : kinds[p.1]? = some true ∧ ∃ v, vs[p.1]? = some v ∧ p.2 = some v := by
  obtain ⟨i, h1, h2⟩ := List.mem_filterMap.mp h
  rw [Option.map_eq_some_iff] at h2
  obtain ⟨v, h3, rfl⟩ := h2
  obtain ⟨m, h4, h5⟩ := mem_mutIx.mp h1
  have e : i = m := by omega
  subst e
  exact ⟨h4, v, h3, rfl⟩
theorem start_get {N : List Str} {vs : List V} {i : Nat} {v : V} (h : vs[i]? = some v) : (L2.start N vs)[i]? = some (some v) := by
  unfold L2.start
  have hi := (List.getElem?_eq_some_iff.mp h).1
  rw [List.getElem?_append_left (by rw [List.length_map]; exact hi), List.getElem?_map, h]
  rfl
theorem R.init {F H : Hp} {kinds : List Bool} {ds : List D} {vs : List V} {frs : List (List Addr)} {N : List Str} (hs : ∀ a u, F a = some u → Has H a u) (rep : RepA K F H ds vs frs) (hl : kinds.length = ds.length) (sep : ArgSep F H kinds frs) (hN : ds.length ≤ N.length) :
    R K (Z0 N.length H kinds frs vs) F H (initE kinds ds N.length) (L2.start N vs) (fp0 frs) := by
  obtain ⟨l1, l2⟩ := rep.lens
  have own_of : ∀ {i : Nat}, hold (initE kinds ds N.length) i → ∃ f : List Addr, kinds[i]? = some true ∧ frs[i]? = some f ∧ fp0 frs i = f := by
    intro i h
    have key : ∀ s, (initE kinds ds N.length)[i]? = some s → (∃ d, s = Sl.own d ∨ s = .bor (some i) d) → ∃ f : List Addr, kinds[i]? = some true ∧ frs[i]? = some f ∧ fp0 frs i = f := by
      intro s e ⟨d, hd⟩
      rw [initE_get hl] at e
      split at e
      · rename_i hi
        have hk : i < kinds.length := by omega
        have hf : i < frs.length := by omega
        rw [List.getElem?_eq_getElem hk, List.getElem?_eq_getElem hi] at e
        cases q : kinds[i] with
        | true => exact ⟨frs[i], by rw [List.getElem?_eq_getElem hk, q], List.getElem?_eq_getElem hf, by unfold fp0; simp [hf]⟩
        | false =>
          simp only [q] at e
          cases e
          rcases hd with hd | hd <;> cases hd
      · split at e
        · cases e
          rcases hd with hd | hd <;> cases hd
        · cases e
    rcases h with ⟨d, e⟩ | ⟨d, e⟩
    · exact key _ e ⟨d, .inl rfl⟩
    · exact key _ e ⟨d, .inr rfl⟩
  refine ⟨hs, fun i => ?_, fun i j hij hi hj a ha => ?_, fun i hi a ha hB => ?_, fun i hi a ha => ?_, fun a hB => ?_, fun p hp => ?_, (fun p hp => by cases hp), ?_, fun i hi a ha => ?_⟩
  · unfold SlotR
    rw [initE_get hl]
    by_cases hi : i < ds.length
    · have hk : i < kinds.length := by omega
      rw [if_pos hi, List.getElem?_eq_getElem hk, List.getElem?_eq_getElem hi]
      obtain ⟨v, f, e1, e2, e3⟩ := rep.get (i := i) (List.getElem?_eq_getElem hi)
      have z : fp0 frs i = f := by unfold fp0; rw [List.getD_eq_getElem?_getD, e2]; rfl
      cases q : kinds[i] with
      | true => exact ⟨v, start_get e1, by rw [z]; exact e3⟩
      | false => exact ⟨v, start_get e1, by rw [z]; exact e3, fun a ha => .inl ⟨i, f, by rw [List.getElem?_eq_getElem hk, q], e2, by rw [← z]; exact ha⟩⟩
    · rw [if_neg hi]
      by_cases h2 : i < ds.length + (N.length - ds.length)
      · rw [if_pos h2]; trivial
      · rw [if_neg h2]; trivial
  · obtain ⟨fi, k1, e1, z1⟩ := own_of hi
    obtain ⟨fj, k2, e2, z2⟩ := own_of hj
    rw [z1] at ha
    rw [z2]
    exact sep.apart i j fi fj hij k1 e1 e2 a ha
  · obtain ⟨fi, k1, e1, z1⟩ := own_of hi
    rw [z1] at ha
    rcases hB with ⟨j, f, k2, e2, hm⟩ | ⟨o, u, hz⟩
    case inr => exact sep.nf i fi k1 e1 a ha o u hz
    have ne : i ≠ j := fun z => by
      subst z
      rw [k1] at k2
      cases k2
    exact sep.apart i j fi f ne k1 e1 e2 a ha hm
  · obtain ⟨fi, k1, e1, z1⟩ := own_of hi
    rw [z1] at ha
    exact sep.hF i fi k1 e1 a ha
  · rcases hB with ⟨j, f, k2, e2, hm⟩ | ⟨o, u, hz⟩
    case inr => rw [hz]; exact fun z => by cases z
    have hj : j < ds.length := by
      have := (List.getElem?_eq_some_iff.mp k2).1
      omega
    obtain ⟨v, f', e3, e4, e5⟩ := rep.get (i := j) (List.getElem?_eq_getElem hj)
    rw [e2] at e4
    cases e4
    exact Rep.dom _ _ _ e5 a hm
  · obtain ⟨h1, v, h2, h3⟩ := Z0_pins hp
    rw [h3]
    exact start_get h2
  · unfold L2.start initE
    rw [List.length_append, List.length_append, List.length_map, List.length_replicate, List.length_replicate, List.length_zipWith, hl, l1]
    refine ⟨?_, ?_⟩
    · show ds.length + (N.length - ds.length) = N.length
      omega
    · show min ds.length ds.length + (N.length - ds.length) = N.length
      omega
  · obtain ⟨fi, k1, e1, z1⟩ := own_of (.inl hi)
    rw [z1] at ha
    exact sep.nf i fi k1 e1 a ha
theorem getMi_get : ∀ {ks : List Bool} {i : Nat} {env : Evn} {ms : List D} {vs : List V}, getMi ks i env = some ms → ks.length = vs.length → ∀ {F H : Hp} {fp : Fp} {σ : L2.St} {Z : Zst}, R K Z F H env σ fp → (∀ (m : Nat) (v : V), ks[m]? = some true → vs[m]? = some v → σ[i + m]? = some (some v)) →
    ∃ nfs, RepA K F H ms (mvs ks vs) nfs ∧ nfs = (mutIx ks i).map fp ∧ ∀ j ∈ mutIx ks i, isOwn env j
  | [], i, env, ms, [], h, _, F, H, fp, σ, Z, r, hσ => by
    cases h
    exact ⟨[], trivial, rfl, fun j hj => by cases hj⟩
  | [], _, _, _, _ :: _, _, l, _, _, _, _, _, _, _ => by simp at l
  | _ :: _, _, _, _, [], _, l, _, _, _, _, _, _, _ => by simp at l
  | true :: ks, i, env, ms, v :: vs, h, l, F, H, fp, σ, Z, r, hσ => by
    unfold getMi at h
    cases q : env[i]? with
    | none => rw [q] at h; cases h
    | some t =>
      rw [q] at h
      cases t with
      | own d =>
        have h' : (getMi ks (i + 1) env).map (d :: ·) = some ms := h
        rw [Option.map_eq_some_iff] at h'
        obtain ⟨ms', h1, rfl⟩ := h'
        obtain ⟨nfs, e1, e2, e3⟩ := getMi_get (vs := vs) h1 (by simpa using l) r (fun m v hk hv => by
          have z := hσ (m + 1) v (by simpa using hk) (by simpa using hv)
          rw [show i + 1 + m = i + (m + 1) by omega]
          exact z)
        have s := r.slot i
        unfold SlotR at s
        rw [q] at s
        obtain ⟨v', s1, s2⟩ := s
        have z := hσ 0 v rfl rfl
        rw [Nat.add_zero, s1] at z
        cases z
        refine ⟨fp i :: nfs, ⟨s2, e1⟩, by rw [mutIx, List.map_cons, e2], fun j hj => ?_⟩
        rw [mutIx, List.mem_cons] at hj
        rcases hj with rfl | hj
        · exact ⟨d, q⟩
        · exact e3 j hj
      | dead => cases h
      | bor _ _ => cases h
  | false :: ks, i, env, ms, v :: vs, h, l, F, H, fp, σ, Z, r, hσ => by
    unfold getMi at h
    exact getMi_get (vs := vs) h (by simpa using l) r (fun m v hk hv => by
      have z := hσ (m + 1) v (by simpa using hk) (by simpa using hv)
      rw [show i + 1 + m = i + (m + 1) by omega]
      exact z)
theorem mutIx_nodup : ∀ (ks : List Bool) (i : Nat), (mutIx ks i).Nodup
  | [], _ => List.nodup_nil
  | true :: ks, i => by
    rw [mutIx, List.nodup_cons]
    refine ⟨fun h => ?_, mutIx_nodup ks (i + 1)⟩
    obtain ⟨m, _, e⟩ := mem_mutIx.mp h
    omega
  | false :: ks, i => by rw [mutIx]; exact mutIx_nodup ks (i + 1)
theorem own_init {kinds : List Bool} {ds : List D} {frs : List (List Addr)} {n : Nat} (hl : kinds.length = ds.length) (l2 : frs.length = ds.length) {a : Addr} (h : OwnA (initE kinds ds n) (fp0 frs) a) : MutA kinds frs a := by
  obtain ⟨i, ⟨d, e⟩, ha⟩ := h
  rw [initE_get hl] at e
  split at e
  · rename_i hi
    have hk : i < kinds.length := by omega
    have hf : i < frs.length := by omega
    rw [List.getElem?_eq_getElem hk, List.getElem?_eq_getElem hi] at e
    cases q : kinds[i] with
    | true => exact ⟨i, frs[i], by rw [List.getElem?_eq_getElem hk, q], List.getElem?_eq_getElem hf, by unfold fp0 at ha; simpa [hf] using ha⟩
    | false =>
      simp only [q] at e
      cases e
  · split at e <;> cases e
theorem muts_of {F H F' H' : Hp} {kinds : List Bool} {ds ms : List D} {vs : List V} {frs : List (List Addr)} {N : List Str} {env' : Evn} {σ' : L2.St} {fp' : Fp} (rep : RepA K F H ds vs frs) (hl : kinds.length = ds.length) (ev : Ev true F H (initE kinds ds N.length) (fp0 frs) F' H' env' fp')
    (r' : R K (Z0 N.length H kinds frs vs) F' H' env' σ' fp') (h : getMi kinds 0 env' = some ms) : ∃ nfs, FEv F H (MutA kinds frs) F' H' ∧ Muts K H (MutA kinds frs) F' H' kinds vs ms nfs ∧ ∀ f ∈ nfs, ∀ a ∈ f, OwnA env' fp' a := by
  obtain ⟨l1, l2⟩ := rep.lens
  have own_of : ∀ {a}, OwnA env' fp' a → H a = none ∨ MutA kinds frs a := fun h => (ev.own _ h).imp id (own_init hl l2)
  obtain ⟨nfs, e1, e2, e3⟩ := getMi_get (vs := vs) h (by rw [hl, l1]) r' (fun m v hk hv => by
    rw [Nat.zero_add]
    refine r'.pin (m, v) (List.mem_filterMap.mpr ⟨m, mem_mutIx.mpr ⟨m, hk, by omega⟩, ?_⟩)
    rw [hv]
    rfl)
  have hmem : ∀ f ∈ nfs, ∃ j ∈ mutIx kinds 0, f = fp' j := fun f hf => by
    rw [e2] at hf
    obtain ⟨j, hj, e⟩ := List.mem_map.mp hf
    exact ⟨j, hj, e.symm⟩
  have hown : ∀ f ∈ nfs, ∀ a ∈ f, OwnA env' fp' a := fun f hf a ha => by
    obtain ⟨j, hj, rfl⟩ := hmem f hf
    exact ⟨j, e3 j hj, ha⟩
  refine ⟨nfs, ⟨fun a o ho hm => ev.keep a o ho fun _ z => hm (own_init hl l2 z), ev.sub, fun a h1 h2 => (ev.new a h1 h2).imp id fun z => own_init hl l2 z.2, ev.dom, r'.sub, ev.nofz⟩, ⟨e1, fun i j fi fj hij hi hj a ha hm => ?_, fun f hf a ha => ⟨own_of (hown f hf a ha), r'.own_F (hown f hf a ha)⟩⟩, hown⟩
  rw [e2] at hi hj
  rw [List.getElem?_map, Option.map_eq_some_iff] at hi hj
  obtain ⟨x, x1, rfl⟩ := hi
  obtain ⟨y, y1, rfl⟩ := hj
  have ne : x ≠ y := fun z => by
    subst z
    exact hij (nd_ix (mutIx_nodup kinds 0) x1 y1)
  exact r'.sep x y ne (.inl (e3 x (List.mem_of_getElem? x1))) (.inl (e3 y (List.mem_of_getElem? y1))) a ha hm
theorem sim_body {t : TS} {W : WX} {kinds : List Bool} {fb : FS} {N : List Str} {vs : List V} {H : Hp} {Q : VK} {E : XK} (s : SSim K W (mutIx kinds 0) t fb) (hW : ∀ cls d σ H, E cls d H → W cls d σ H) (hN : kinds.length ≤ N.length) (h : spD K kinds (runF kinds N.length fb) vs H Q E) :
    t { nx := fun _ H' => Q .non H', rt := Q } (L2.start N vs) H := by
  obtain ⟨F, ds, frs, hs, rep, hl, sep, hq⟩ := h
  obtain ⟨l1, l2⟩ := rep.lens
  refine s (Z0 N.length H kinds frs vs) F H (initE kinds ds N.length) (L2.start N vs) (fp0 frs) _ (fun p hp => ?_) (R.init hs rep hl sep (by omega)) ?_
  · obtain ⟨h1, h2⟩ := Z0_pins hp
    exact mem_mutIx.mpr ⟨p.1, h1, by omega⟩
  · unfold runF at hq
    cases q : fb (initE kinds ds N.length) with
    | nxt e =>
      rw [q] at hq
      intro F' H' fp' σ' ev r'
      cases qm : getMi kinds 0 e with
      | none =>
        simp only [endF, qm] at hq
        exact hq.elim
      | some ms =>
        simp only [endF, qm] at hq
        obtain ⟨nfs, m1, m2, m3⟩ := muts_of rep hl ev r' qm
        exact hq F' H' .non [] nfs m1 (.plain rfl) m2 fun a ha => by cases ha
    | ret d e =>
      rw [q] at hq
      intro F' H' fp' σ' v fr ev r' rp ko
      cases qm : getMi kinds 0 e with
      | none =>
        simp only [endF, qm] at hq
        exact hq.elim
      | some ms =>
        simp only [endF, qm] at hq
        obtain ⟨nfs, m1, m2, m3⟩ := muts_of rep hl ev r' qm
        refine hq F' H' v fr nfs m1 rp m2 fun a ha => ?_
        obtain ⟨k1, k2, k3⟩ := ko a ha
        exact ⟨k1.imp id (own_init hl l2), k3, fun f hf hm => k2 (m3 f hf a hm)⟩
    | exc c x e =>
      rw [q] at hq
      intro F' H' fp' σ' dx ev r' rp
      cases qm : getMi kinds 0 e with
      | none =>
        simp only [endF, qm] at hq
        exact hq.elim
      | some ms =>
        simp only [endF, qm] at hq
        obtain ⟨nfs, m1, m2, m3⟩ := muts_of rep hl ev r' qm
        exact hW _ _ _ _ (hq F' H' dx nfs m1 rp m2)
    | brk e => rw [q] at hq; exact hq.elim
    | cnt e => rw [q] at hq; exact hq.elim
    | stuck => rw [q] at hq; exact hq.elim
end
end DL
namespace DL
open PySem PySem.Spec L2
abbrev TAK := L2.St → Hp → (List V → List V → Hp → Prop) → Prop
structure PArgs (X : Cx) (es : List Expr) (kws : List Keyword) (ks : List Str) (t : TAK) : Prop where
  run : ∀ (pos : Pos) (f : Addr) (us0 : List Value) (pins : List (Addr × Obj)) (s : Shared) (σ : L2.St) (H : Hp) (Q : Value → Shared → Prop), PySem.W.keepIn X.K (.ref f) = true → Inv X pins σ H s →
    ∀ G : List V → List V → Hp → Prop, t σ H G → (∀ vs zs H' s' us ws, Inv X pins σ H' s' → Vals vs us → Vals zs ws → G vs zs H' → wpAny (model X.prog X.w) X.A (call (.ref f) (us0 ++ us) (ks.zip ws)) Q X.xe s') →
    wpAny (model X.prog X.w) X.A (callWith pos (.ref f) us0 (backTo pos (starEach es X.env)) (backToKw pos (keywordEach kws X.env))) Q X.xe s
section
variable {X : Cx} {W : WX} {e : Expr} {es : List Expr} {kws : List Keyword} {ks : List Str} {ta tk : TA} {p pos apos : Pos}
theorem pargs_pos (ha : PA X (e :: es) ta) (he : starEach (e :: es) X.env = (false, eval e X.env) :: starEach es X.env := by rfl) (hpl : ∀ pos, (backTo pos (starEach es X.env)).any (·.1) = false := by exact fun _ => rfl) :
    PArgs X (e :: es) [] [] (fun σ H G => ta σ H fun vs H1 => G vs [] H1) :=
  ⟨fun pos f us0 pins s σ H Q hk I G h c => PySem.W.callWith_K (first := us0) (h₀ := X.base) I.ok.mod.kin hk (thn (ha.run pos pins s σ H _ I h) fun us s1 ⟨vs, H1, I1, r, q⟩ => ⟨I1.kIn, c vs [] H1 s1 us [] I1 r .nil q⟩) he (hpl pos)⟩
variable {k n : Nat} {f C : Addr} {fd : FuncData} {ps : List Str} {sp : Sp} {g : List Value → List Value → List Value} {gV : List V → List V → List V} {t : TAK} {x m : Str} {o : Expr} {te : TE}
theorem run_fnX {pins : List (Addr × Obj)} {σ : L2.St} {H : Hp} {s : Shared} {Q : VK} {us ws : List Value} {vs zs : List V} (F : FnOk X.prog X.w X.K X.mg X.base (L2.CX X.prog X.w) k f fd ps sp) (hr : Room k X.A) (hb : KBn X.K fd ps n ks g gV) (tk : Takes X W)
    (I : Inv X pins σ H s) (r : Vals vs us) (rz : Vals zs ws) (l1 : vs.length = n) (l2 : zs.length = ks.length) (h : sp (gV vs zs) H Q (WE W σ)) : wpAny (model X.prog X.w) X.A (call (.ref f) us (ks.zip ws)) (EP X pins σ Q) X.xe s := by
  have r2 := hb.rel r rz
  refine wpAny_call (codeAny_mono (F.run X.A X.stack s H ⟨us, ks.zip ws⟩ (g us ws) (gV vs zs) Q (WE W σ) hr I.env0 (hb.to s us ws I.kIn (r.length.symm.trans l1) (rz.length.symm.trans l2)) r2 h) fun r s' hq => ?_)
  cases r with
  | error e => exact passAt tk σ pins H s e s' I hq
  | ok fl =>
    cases fl with
    | ret u => exact I.after hq
    | next => exact False.elim hq
    | brk => exact False.elim hq
    | cont => exact False.elim hq
def tCl (n : Nat) (ks : List Str) (sp : Sp) (gV : List V → List V → List V) (W : WX) (t : TAK) : TE := fun σ H Q => t σ H fun vs zs H1 => vs.length = n ∧ zs.length = ks.length ∧ sp (gV vs zs) H1 Q (WE W σ)
theorem pe_cl (F : FnOk X.prog X.w X.K X.mg X.base (L2.CX X.prog X.w) k f fd ps sp) (hr : Room k X.A) (hg : Gl X x) (hm : X.mg x = some (.ref f)) (hk : PySem.W.keepIn X.K (.ref f) = true) (hb : KBn X.K fd ps n ks g gV) (tk : Takes X W) (ha : PArgs X es kws ks t)
    (hdb : (x == ("__debug__" : Str)) = false := by decide) : PE X (.Call (.Name x p) es kws pos) (tCl n ks sp gV W t) := by
  refine ⟨fun pins s σ H Q I h => ?_⟩
  refine wpAny_Call_Name_kw (ld_glob I hg hm ?_ hdb)
  exact ha.run pos f [] pins s σ H _ hk I _ h fun vs zs H1 s' us ws I' r rz ⟨l1, l2, q⟩ => run_fnX F hr hb tk I' r rz l1 l2 q
end
inductive CK where
  | val (k : Kd) | slot (j : Nat)
def CArgs (K : PySem.W.Frag) (H0 : Hp) (env0 : Evn) (fp0 : Fp) (F H : Hp) (env : Evn) (fp : Fp) (σ : L2.St) : List CK → List D → List V → List (List Addr) → Prop
  | [], [], [], [] => True
  | .val k :: cs, d :: ds, v :: vs, f :: fs => Rep K F H d v f ∧ KOk k H0 env0 fp0 F env fp f ∧ (k = .own → ∀ (i : Nat) (g : List Addr), cs[i]? = some (CK.val .own) → fs[i]? = some g → ∀ a ∈ f, a ∉ g) ∧ CArgs K H0 env0 fp0 F H env fp σ cs ds vs fs
  | .slot j :: cs, d :: ds, v :: vs, f :: fs => σ[j]? = some (some v) ∧ f = [] ∧ CArgs K H0 env0 fp0 F H env fp σ cs ds vs fs
  | _, _, _, _ => False
def CSim (K : PySem.W.Frag) (W : WX) (ε : Bool) (cs : List CK) (t : TA) (f : FA) : Prop := ∀ Z F H env σ fp Q, R K Z F H env σ fp →
  Post K W ε Z F H env σ fp (fun ds env' => ∀ F' H' fp' vs frs, Ev ε F H env fp F' H' env' fp' → R K Z F' H' env' σ fp' → CArgs K H env fp F' H' env' fp' σ cs ds vs frs → Q vs H') (f env) → t σ H Q
def CK.prot : CK → Bool
  | .val (.bor _) => false
  | _ => true
section
variable {K : PySem.W.Frag} {W : WX} {ε ε1 ε2 : Bool} {F H F1 H1 F2 H2 F' H' F0 H0 : Hp} {env env1 env2 env' env0 : Evn} {fp fp1 fp2 fp' fp0 : Fp} {Z : Zst} {σ : L2.St} {k k1 k2 : Kd} {cs cs1 cs2 : List CK}
theorem CArgs.rel (e : Ev ε F0 H0 env0 fp0 F1 H1 env1 fp1) : ∀ {cs : List CK} {ds : List D} {vs : List V} {frs : List (List Addr)}, CArgs K H1 env1 fp1 F H env fp σ cs ds vs frs → CArgs K H0 env0 fp0 F H env fp σ cs ds vs frs
  | [], [], [], [], _ => trivial
  | .val k :: cs, d :: ds, v :: vs, f :: fs, h => ⟨h.1, h.2.1.rel e, h.2.2.1, CArgs.rel e h.2.2.2⟩
  | .slot j :: cs, d :: ds, v :: vs, f :: fs, h => ⟨h.1, h.2.1, CArgs.rel e h.2.2⟩
  | [], _ :: _, _, _, h => h.elim
  | [], [], _ :: _, _, h => h.elim
  | [], [], [], _ :: _, h => h.elim
  | .val _ :: _, [], _, _, h => h.elim
  | .val _ :: _, _ :: _, [], _, h => h.elim
  | .val _ :: _, _ :: _, _ :: _, [], h => h.elim
  | .slot _ :: _, [], _, _, h => h.elim
  | .slot _ :: _, _ :: _, [], _, h => h.elim
  | .slot _ :: _, _ :: _, _ :: _, [], h => h.elim
theorem CArgs.ev (e : Ev ε F H env fp F1 H1 env1 fp1) : ∀ {cs : List CK} {ds : List D} {vs : List V} {frs : List (List Addr)}, (ε = true → cs.all CK.prot = true) → CArgs K H0 env0 fp0 F H env fp σ cs ds vs frs → CArgs K H0 env0 fp0 F1 H1 env1 fp1 σ cs ds vs frs
  | [], [], [], [], _, _ => trivial
  | .val k :: cs, d :: ds, v :: vs, f :: fs, p, h => by
    have hk := KOk.ev e h.1 (fun z j hj => by
      have q := p z
      rw [hj] at q
      simp [CK.prot] at q) h.2.1
    exact ⟨hk.1, hk.2, h.2.2.1, CArgs.ev e (fun z => by have q := p z; rw [List.all_cons, Bool.and_eq_true] at q; exact q.2) h.2.2.2⟩
  | .slot j :: cs, d :: ds, v :: vs, f :: fs, p, h => ⟨h.1, h.2.1, CArgs.ev e (fun z => by have q := p z; rw [List.all_cons, Bool.and_eq_true] at q; exact q.2) h.2.2⟩
  | [], _ :: _, _, _, _, h => h.elim
  | [], [], _ :: _, _, _, h => h.elim
  | [], [], [], _ :: _, _, h => h.elim
  | .val _ :: _, [], _, _, _, h => h.elim
  | .val _ :: _, _ :: _, [], _, _, h => h.elim
  | .val _ :: _, _ :: _, _ :: _, [], _, h => h.elim
  | .slot _ :: _, [], _, _, _, h => h.elim
  | .slot _ :: _, _ :: _, [], _, _, h => h.elim
  | .slot _ :: _, _ :: _, _ :: _, [], _, h => h.elim
theorem CArgs.own : ∀ {cs : List CK} {ds : List D} {vs : List V} {frs : List (List Addr)} {i : Nat} {g : List Addr}, CArgs K H0 env0 fp0 F H env fp σ cs ds vs frs → cs[i]? = some (CK.val .own) → frs[i]? = some g → KOk .own H0 env0 fp0 F env fp g
  | [], ds, vs, frs, i, g, _, h, _ => by simp at h
  | .val k :: cs, d :: ds, v :: vs, f :: fs, 0, g, h, h1, h2 => by
    simp at h1 h2
    subst h1 h2
    exact h.2.1
  | .slot j :: cs, d :: ds, v :: vs, f :: fs, 0, g, h, h1, h2 => by simp at h1
  | .val k :: cs, d :: ds, v :: vs, f :: fs, i + 1, g, h, h1, h2 => CArgs.own (cs := cs) (frs := fs) (i := i) h.2.2.2 (by simpa using h1) (by simpa using h2)
  | .slot j :: cs, d :: ds, v :: vs, f :: fs, i + 1, g, h, h1, h2 => CArgs.own (cs := cs) (frs := fs) (i := i) h.2.2 (by simpa using h1) (by simpa using h2)
  | .val _ :: _, [], _, _, _, _, h, _, _ => h.elim
  | .val _ :: _, _ :: _, [], _, _, _, h, _, _ => h.elim
  | .val _ :: _, _ :: _, _ :: _, [], _, _, h, _, _ => h.elim
  | .slot _ :: _, [], _, _, _, _, h, _, _ => h.elim
  | .slot _ :: _, _ :: _, [], _, _, _, h, _, _ => h.elim
  | .slot _ :: _, _ :: _, _ :: _, [], _, _, h, _, _ => h.elim
def fSlot (j : Nat) : FE := fun env => match env[j]? with
  | some (.own _) => .ok .non env
  | _ => .stuck
theorem csim_nil : CSim K W false [] tNil aNil := fun Z F H env σ fp Q r h => h F H fp [] [] (Ev.refl (Z := Z) _ rfl) r trivial
theorem csim_val {te : TE} {ta : TA} {f : FE} {g : FA} (he : ESim K W ε1 k1 te f) (ha : CSim K W ε2 cs ta g) (hp : ε2 = true → ∀ j, k1 ≠ .bor j := by first | exact fun h => (nomatch h) | exact fun _ j h => (nomatch h)) :
    CSim K W (ε1 || ε2) (.val k1 :: cs) (tCons te ta) (aCons f g) := by
  intro Z F H env σ fp Q r h
  refine he Z F H env σ fp _ r (Post.bind h orL orLF fun d env1 h1 F1 H1 fp1 v fr e1 r1 rep1 k1' => ?_)
  have h1' := Post.seq (a := d) e1 h1
  refine ha Z F1 H1 env1 σ fp1 _ r1 (Post.bind (ε := ε2) h1' id id fun ds env2 h2 F2 H2 fp2 vs frs e2 r2 rep2 => ?_)
  have hk := KOk.ev e2 rep1 hp k1'
  refine h2 F2 H2 fp2 (v :: vs) (fr :: frs) (e1.trans e2) r2 ⟨hk.1, hk.2, fun ko i gg hi hg a h3 h4 => ?_, rep2.rel e1⟩
  subst ko
  have q := CArgs.own rep2 hi hg a h4
  have nd := Rep.dom d v fr rep1 a h3
  rcases q.1 with z | z
  · exact nd z
  · exact (k1' a h3).2.1 z
theorem csim_slot {ta : TA} {g : FA} {j : Nat} (ha : CSim K W ε2 cs ta g) : CSim K W ε2 (.slot j :: cs) (tCons (tVar j) ta) (aCons (fSlot j) g) := by
  intro Z F H env σ fp Q r h
  have h' : Post K W ε2 Z F H env σ fp (fun ds env' => ∀ F' H' fp' vs frs, Ev ε2 F H env fp F' H' env' fp' → R K Z F' H' env' σ fp' → CArgs K H env fp F' H' env' fp' σ (.slot j :: cs) ds vs frs → Q vs H') ((fSlot j env).bind fun d e => (g e).map (d :: ·)) := h
  have s := r.slot j
  unfold SlotR at s
  unfold fSlot at h'
  cases q : env[j]? with
  | none => rw [q] at h'; exact h'.elim
  | some t =>
    rw [q] at h' s
    cases t with
    | own d =>
      obtain ⟨v, h1, h2⟩ := s
      refine ⟨v, h1, ha Z F H env σ fp _ r (Post.bind (ε := ε2) h' id id fun ds env2 h2 F2 H2 fp2 vs frs e2 r2 rep2 => ?_)⟩
      exact h2 F2 H2 fp2 (v :: vs) ([] :: frs) e2 r2 ⟨h1, rfl, rep2⟩
    | dead => exact h'.elim
    | bor _ _ => exact h'.elim
theorem CArgs.len : ∀ {cs : List CK} {ds : List D} {vs : List V} {frs : List (List Addr)}, CArgs K H0 env0 fp0 F H env fp σ cs ds vs frs → ds.length = cs.length ∧ vs.length = cs.length ∧ frs.length = cs.length
  | [], [], [], [], _ => ⟨rfl, rfl, rfl⟩
  | .val k :: cs, d :: ds, v :: vs, f :: fs, h => by
    obtain ⟨a, b, c⟩ := CArgs.len h.2.2.2
    exact ⟨congrArg Nat.succ a, congrArg Nat.succ b, congrArg Nat.succ c⟩
  | .slot j :: cs, d :: ds, v :: vs, f :: fs, h => by
    obtain ⟨a, b, c⟩ := CArgs.len h.2.2
    exact ⟨congrArg Nat.succ a, congrArg Nat.succ b, congrArg Nat.succ c⟩
  | [], _ :: _, _, _, h => h.elim
  | [], [], _ :: _, _, h => h.elim
  | [], [], [], _ :: _, h => h.elim
  | .val _ :: _, [], _, _, h => h.elim
  | .val _ :: _, _ :: _, [], _, h => h.elim
  | .val _ :: _, _ :: _, _ :: _, [], h => h.elim
  | .slot _ :: _, [], _, _, h => h.elim
  | .slot _ :: _, _ :: _, [], _, h => h.elim
  | .slot _ :: _, _ :: _, _ :: _, [], h => h.elim
theorem CArgs.append : ∀ {cs : List CK} {ds es : List D} {vs ws : List V} {frs grs : List (List Addr)}, CArgs K H0 env0 fp0 F H env fp σ cs ds vs frs → CArgs K H0 env0 fp0 F H env fp σ cs2 es ws grs →
    (∀ (i j : Nat) (f g : List Addr), cs[i]? = some (CK.val .own) → frs[i]? = some f → cs2[j]? = some (CK.val .own) → grs[j]? = some g → ∀ a ∈ f, a ∉ g) → CArgs K H0 env0 fp0 F H env fp σ (cs ++ cs2) (ds ++ es) (vs ++ ws) (frs ++ grs)
  | [], [], es, [], ws, [], grs, _, h, _ => h
  | .val k :: cs, d :: ds, es, v :: vs, ws, f :: fs, grs, h, h', n => by
    refine ⟨h.1, h.2.1, fun ko i g hi hg a ha => ?_, CArgs.append h.2.2.2 h' fun i j f g h1 h2 h3 h4 => n (i + 1) j f g (by simpa using h1) (by simpa using h2) h3 h4⟩
    obtain ⟨l1, l2, l3⟩ := CArgs.len h.2.2.2
    replace hi : (cs ++ cs2)[i]? = some (CK.val .own) := hi
    replace hg : (fs ++ grs)[i]? = some g := hg
    by_cases hl : i < cs.length
    · rw [List.getElem?_append_left hl] at hi
      rw [List.getElem?_append_left (by omega)] at hg
      exact h.2.2.1 ko i g hi hg a ha
    · rw [List.getElem?_append_right (by omega)] at hi hg
      rw [l3] at hg
      exact n 0 _ f g (by rw [ko]; rfl) rfl hi hg a ha
  | .slot j :: cs, d :: ds, es, v :: vs, ws, f :: fs, grs, h, h', n => ⟨h.1, h.2.1, CArgs.append h.2.2 h' fun i j f g h1 h2 h3 h4 => n (i + 1) j f g (by simpa using h1) (by simpa using h2) h3 h4⟩
  | [], _ :: _, _, _, _, _, _, h, _, _ => h.elim
  | [], [], _, _ :: _, _, _, _, h, _, _ => h.elim
  | [], [], _, [], _, _ :: _, _, h, _, _ => h.elim
  | .val _ :: _, [], _, _, _, _, _, h, _, _ => h.elim
  | .val _ :: _, _ :: _, _, [], _, _, _, h, _, _ => h.elim
  | .val _ :: _, _ :: _, _, _ :: _, _, [], _, h, _, _ => h.elim
  | .slot _ :: _, [], _, _, _, _, _, h, _, _ => h.elim
  | .slot _ :: _, _ :: _, _, [], _, _, _, h, _, _ => h.elim
  | .slot _ :: _, _ :: _, _, _ :: _, _, [], _, h, _, _ => h.elim
def aApp (f g : FA) : FA := fun env => (f env).bind fun ds e => (g e).map (ds ++ ·)
def KSim (K : PySem.W.Frag) (W : WX) (ε : Bool) (n : Nat) (cs : List CK) (t : TAK) (f : FA) : Prop := ∀ Z F H env σ fp (Q : List V → List V → Hp → Prop), R K Z F H env σ fp →
  Post K W ε Z F H env σ fp (fun ds env' => ∀ F' H' fp' vs zs frs, Ev ε F H env fp F' H' env' fp' → R K Z F' H' env' σ fp' → vs.length = n → CArgs K H env fp F' H' env' fp' σ cs ds (vs ++ zs) frs → Q vs zs H') (f env) → t σ H Q
theorem ksim_pos {ta : TA} {f : FA} (h1 : CSim K W ε1 cs1 ta f) : KSim K W ε1 cs1.length cs1 (fun σ H G => ta σ H fun vs H1 => G vs [] H1) f := by
  intro Z F H env σ fp Q r h
  refine h1 Z F H env σ fp _ r (h.imp fun ds env1 h3 F1 H1 fp1 vs frs e1 r1 c1 => h3 F1 H1 fp1 vs [] frs e1 r1 c1.len.2.1 (by rw [List.append_nil]; exact c1))
end
end DL
namespace DL
open PySem PySem.Spec L2
inductive Ar where
  | arg (i : Nat) | dfl (d : D)
def arV : List Ar → List V → List V
  | [], _ => []
  | .arg i :: r, xs => xs.getD i .non :: arV r xs
  | .dfl d :: r, xs => (plainV d).getD .non :: arV r xs
def fixA (cs : List CK) (ds : List D) (env : Evn) : List Bool → List Ar → Option (List D)
  | [], [] => some []
  | true :: ks, .arg i :: ar => match cs[i]? with
    | some (.slot j) => match env[j]? with
      | some (.own d) => (fixA cs ds env ks ar).map (d :: ·)
      | _ => none
    | _ => none
  | false :: ks, .arg i :: ar => match cs[i]? with
    | some (.val _) => match ds[i]? with
      | some d => (fixA cs ds env ks ar).map (d :: ·)
      | none => none
    | _ => none
  | false :: ks, .dfl d :: ar => if (plainV d).isSome = true then (fixA cs ds env ks ar).map (d :: ·) else none
  | _, _ => none
def jsOf (cs : List CK) : List Bool → List Ar → List Nat
  | true :: ks, .arg i :: ar => match cs[i]? with
    | some (.slot j) => j :: jsOf cs ks ar
    | _ => jsOf cs ks ar
  | _ :: ks, _ :: ar => jsOf cs ks ar
  | _, _ => []
def rootOk (env : Evn) (js : List Nat) (r : Nat) : Bool := match env[r]? with
  | some (.own _) => !js.contains r
  | some (.bor none _) => true
  | some (.bor (some m) _) => !js.contains m
  | _ => false
def rootsOk (cs : List CK) (js : List Nat) (env : Evn) : Bool := cs.all fun c => match c with
  | .val (.bor r) => rootOk env js r
  | _ => true
def frA (cs : List CK) (frs : List (List Addr)) (fp : Fp) : List Bool → List Ar → List (List Addr)
  | true :: ks, .arg i :: ar => (match cs[i]? with
    | some (.slot j) => fp j
    | _ => []) :: frA cs frs fp ks ar
  | false :: ks, .arg i :: ar => frs.getD i [] :: frA cs frs fp ks ar
  | _ :: ks, .dfl _ :: ar => [] :: frA cs frs fp ks ar
  | _, _ => []
def deadM : List Nat → Evn → Evn
  | [], env => env
  | j :: js, env => deadM js (putE j .dead env)
def putM : List Nat → List D → Evn → Evn
  | j :: js, m :: ms, env => putM js ms (putE j (.own m) env)
  | _, _, env => env
def backM (js : List Nat) (ms : List D) (env : Evn) : Evn := putM js ms (deadM js env)
section
variable {K : PySem.W.Frag} {W : WX} {ε ε1 ε2 : Bool} {F H F1 H1 F2 H2 F' H' F0 H0 : Hp} {env env1 env2 env' env0 : Evn} {fp fp1 fp2 fp' fp0 : Fp} {Z : Zst} {σ : L2.St} {k k1 k2 : Kd} {cs cs1 cs2 : List CK} {ds ms : List D} {vs : List V} {frs nfs : List (List Addr)}
theorem CArgs.get : ∀ {cs : List CK} {ds : List D} {vs : List V} {frs : List (List Addr)} {i : Nat} {c : CK}, CArgs K H0 env0 fp0 F H env fp σ cs ds vs frs → cs[i]? = some c →
    ∃ d v f, ds[i]? = some d ∧ vs[i]? = some v ∧ frs[i]? = some f ∧ match c with
      | .val k => Rep K F H d v f ∧ KOk k H0 env0 fp0 F env fp f
      | .slot j => σ[j]? = some (some v) ∧ f = []
  | [], _, _, _, i, c, _, h => by simp at h
  | .val k :: cs, d :: ds, v :: vs, f :: fs, 0, c, h, e => by
    simp at e
    subst e
    exact ⟨d, v, f, rfl, rfl, rfl, h.1, h.2.1⟩
  | .slot j :: cs, d :: ds, v :: vs, f :: fs, 0, c, h, e => by
    simp at e
    subst e
    exact ⟨d, v, f, rfl, rfl, rfl, h.1, h.2.1⟩
  | .val k :: cs, d :: ds, v :: vs, f :: fs, i + 1, c, h, e => CArgs.get (i := i) h.2.2.2 (by simpa using e)
  | .slot j :: cs, d :: ds, v :: vs, f :: fs, i + 1, c, h, e => CArgs.get (i := i) h.2.2 (by simpa using e)
  | .val _ :: _, [], _, _, _, _, h, _ => h.elim
  | .val _ :: _, _ :: _, [], _, _, _, h, _ => h.elim
  | .val _ :: _, _ :: _, _ :: _, [], _, _, h, _ => h.elim
  | .slot _ :: _, [], _, _, _, _, h, _ => h.elim
  | .slot _ :: _, _ :: _, [], _, _, _, h, _ => h.elim
  | .slot _ :: _, _ :: _, _ :: _, [], _, _, h, _ => h.elim
theorem val_apart (r : R K Z F H env σ fp) {J : List Nat} {f : List Addr} {j : Nat} (hr : rootsOk cs J env = true) {i : Nat} (hc : cs[i]? = some (.val k)) (ko : KOk k H0 env0 fp0 F env fp f) (hj : j ∈ J) (ho : isOwn env j) : ∀ a ∈ f, a ∉ fp j := by
  intro a ha hm
  cases k with
  | own => exact (ko a ha).2.1 ⟨j, ho, hm⟩
  | frz =>
    have e : f = [] := ko
    rw [e] at ha
    cases ha
  | bor m =>
    have q := List.all_eq_true.mp hr _ (List.mem_of_getElem? hc)
    have q' : rootOk env J m = true := q
    unfold rootOk at q'
    have hfm := ko.2 a ha
    have s := r.slot m
    unfold SlotR at s
    cases e : env[m]? with
    | none => rw [e] at q'; cases q'
    | some t =>
      rw [e] at q' s
      cases t with
      | dead => cases q'
      | own d =>
        have ne : m ≠ j := fun z => by
          subst z
          simp [hj] at q'
        exact r.sep m j ne (.inl ⟨d, e⟩) (.inl ho) a hfm hm
      | bor t d =>
        cases t with
        | none =>
          obtain ⟨v, _, _, h3⟩ := s
          exact r.sepB j (.inl ho) a hm (h3 a hfm)
        | some t =>
          obtain ⟨v, _, _, h3, h4⟩ := s
          have ne : t ≠ j := fun z => by
            subst z
            simp [hj] at q'
          exact r.sep t j ne h3 (.inl ho) a (h4 a hfm) hm
def SepL (F H : Hp) : List Bool → List (List Addr) → Prop
  | true :: ks, f :: fs => (∀ g ∈ fs, ∀ a ∈ f, a ∉ g) ∧ (∀ a ∈ f, F a = none ∧ NF H a) ∧ SepL F H ks fs
  | false :: ks, f :: fs => (∀ (i : Nat) (g : List Addr), ks[i]? = some true → fs[i]? = some g → ∀ a ∈ f, a ∉ g) ∧ SepL F H ks fs
  | _, _ => True
theorem SepL.sep : ∀ {ks : List Bool} {fs : List (List Addr)}, SepL F H ks fs → ArgSep F H ks fs
  | [], fs, _ => ⟨fun i j fi fj _ h => (by simp at h), fun i fi h => (by simp at h), fun i fi h => (by simp at h)⟩
  | b :: ks, [], _ => ⟨fun i j fi fj _ _ h => (by simp at h), fun i fi _ h => (by simp at h), fun i fi _ h => (by simp at h)⟩
  | true :: ks, f :: fs, h => by
    obtain ⟨h1, h2, h3⟩ := h
    have ih := SepL.sep h3
    refine ⟨fun i j fi fj hij hk hi hj a ha hm => ?_, fun i fi hk hi => ?_, fun i fi hk hi => ?_⟩
    · cases i with
      | zero =>
        simp at hi
        subst hi
        cases j with
        | zero => exact hij rfl
        | succ j => exact h1 fj (List.mem_of_getElem? (by simpa using hj)) a ha hm
      | succ i =>
        cases j with
        | zero =>
          simp at hj
          subst hj
          exact h1 fi (List.mem_of_getElem? (by simpa using hi)) a hm ha
        | succ j => exact ih.apart i j fi fj (by omega) (by simpa using hk) (by simpa using hi) (by simpa using hj) a ha hm
    · cases i with
      | zero =>
        simp at hi
        subst hi
        exact fun a ha => (h2 a ha).1
      | succ i => exact ih.hF i fi (by simpa using hk) (by simpa using hi)
    · cases i with
      | zero =>
        simp at hi
        subst hi
        exact fun a ha => (h2 a ha).2
      | succ i => exact ih.nf i fi (by simpa using hk) (by simpa using hi)
  | false :: ks, f :: fs, h => by
    obtain ⟨h1, h3⟩ := h
    have ih := SepL.sep h3
    refine ⟨fun i j fi fj hij hk hi hj a ha hm => ?_, fun i fi hk hi => ?_, fun i fi hk hi => ?_⟩
    · cases i with
      | zero => simp at hk
      | succ i =>
        cases j with
        | zero =>
          simp at hj
          subst hj
          exact h1 i fi (by simpa using hk) (by simpa using hi) a hm ha
        | succ j => exact ih.apart i j fi fj (by omega) (by simpa using hk) (by simpa using hi) (by simpa using hj) a ha hm
    · cases i with
      | zero => simp at hk
      | succ i => exact ih.hF i fi (by simpa using hk) (by simpa using hi)
    · cases i with
      | zero => simp at hk
      | succ i => exact ih.nf i fi (by simpa using hk) (by simpa using hi)
theorem SepL.grow {F H H' : Hp} (n : ∀ a o u, H' a = some (.frz o u) → H a = some (.frz o u)) : ∀ {ks : List Bool} {fs : List (List Addr)}, SepL F H ks fs → SepL F H' ks fs
  | [], _, _ => trivial
  | true :: ks, [], _ => trivial
  | false :: ks, [], _ => trivial
  | true :: ks, f :: fs, h => ⟨h.1, fun a ha => ⟨(h.2.1 a ha).1, fun o u z => (h.2.1 a ha).2 o u (n a o u z)⟩, h.2.2.grow n⟩
  | false :: ks, f :: fs, h => ⟨h.1, h.2.grow n⟩
theorem fix_ok (r : R K Z F H env σ fp) (ca : CArgs K H0 env0 fp0 F H env fp σ cs ds vs frs) {J : List Nat} (hr : J ≠ [] → rootsOk cs J env = true) : ∀ {kinds : List Bool} {ar : List Ar} {as : List D}, fixA cs ds env kinds ar = some as → (jsOf cs kinds ar).Nodup → (∀ j ∈ jsOf cs kinds ar, j ∈ J) →
    RepA K F H as (arV ar vs) (frA cs frs fp kinds ar) ∧ SepL F H kinds (frA cs frs fp kinds ar) ∧ kinds.length = as.length ∧ (∀ j ∈ jsOf cs kinds ar, isOwn env j) ∧ (∀ (i : Nat) (g : List Addr), kinds[i]? = some true → (frA cs frs fp kinds ar)[i]? = some g → ∃ j ∈ jsOf cs kinds ar, g = fp j) ∧
    (∀ g ∈ frA cs frs fp kinds ar, (∃ j ∈ jsOf cs kinds ar, g = fp j) ∨ ∀ j ∈ J, isOwn env j → ∀ a ∈ g, a ∉ fp j) ∧ Paired (fun j v => σ[j]? = some (some v)) (jsOf cs kinds ar) (mvs kinds (arV ar vs))
  | [], [], as, h, _, _ => by
    cases h
    exact ⟨trivial, trivial, rfl, fun j hj => (by cases hj), fun i g h => (by simp at h), fun g hg => (by cases hg), .nil⟩
  | [], _ :: _, as, h, _, _ => by cases h
  | true :: ks, [], as, h, _, _ => by cases h
  | false :: ks, [], as, h, _, _ => by cases h
  | true :: ks, .dfl d :: ar, as, h, _, _ => by cases h
  | true :: ks, .arg i :: ar, as, h, nd, hJ => by
    unfold fixA at h
    unfold jsOf at nd hJ ⊢
    unfold frA
    cases q : cs[i]? with
    | none => rw [q] at h; cases h
    | some c =>
      cases c with
      | val k => rw [q] at h; cases h
      | slot j =>
        rw [q] at h
        rw [q] at nd hJ
        cases q2 : env[j]? with
        | none => simp only [q2] at h; cases h
        | some t =>
          simp only [q2] at h
          cases t with
          | own d =>
            simp only [Option.map_eq_some_iff] at h
            obtain ⟨as', h1, rfl⟩ := h
            have nd' : (j :: jsOf cs ks ar).Nodup := nd
            have hJ' : ∀ m ∈ j :: jsOf cs ks ar, m ∈ J := hJ
            rw [List.nodup_cons] at nd'
            obtain ⟨i1, i2, i3, i4, i5, i6, i7⟩ := fix_ok r ca hr h1 nd'.2 fun m hm => hJ' m (List.mem_cons_of_mem _ hm)
            obtain ⟨d0, v, f, e1, e2, e3, e4, e5⟩ := ca.get q
            have ho : isOwn env j := ⟨d, q2⟩
            have s := r.slot j
            unfold SlotR at s
            rw [q2] at s
            obtain ⟨v', s1, s2⟩ := s
            rw [e4] at s1
            cases s1
            have ev : vs.getD i .non = v := by rw [List.getD_eq_getElem?_getD, e2]; rfl
            refine ⟨⟨by rw [ev]; exact s2, i1⟩, ⟨fun g hg a ha hm => ?_, fun a ha => ⟨r.hF j (.inl ho) a ha, r.nf j ho a ha⟩, i2⟩, by rw [List.length_cons, List.length_cons, i3], fun m hm => ?_, fun x g hx hg => ?_, fun g hg => ?_, ?_⟩
            · rcases i6 g hg with ⟨m, hm', rfl⟩ | z
              · have ne : j ≠ m := fun z => nd'.1 (z ▸ hm')
                exact r.sep j m ne (.inl ho) (.inl (i4 m hm')) a ha hm
              · exact z j (hJ' j (List.mem_cons_self ..)) ho a hm ha
            · rcases List.mem_cons.mp hm with rfl | hm
              · exact ho
              · exact i4 m hm
            · cases x with
              | zero =>
                simp at hg
                exact ⟨j, List.mem_cons_self .., hg.symm⟩
              | succ x =>
                obtain ⟨m, hm, e⟩ := i5 x g (by simpa using hx) (by simpa using hg)
                exact ⟨m, List.mem_cons_of_mem _ hm, e⟩
            · rcases List.mem_cons.mp hg with rfl | hg
              · exact .inl ⟨j, List.mem_cons_self .., rfl⟩
              · rcases i6 g hg with ⟨m, hm', e⟩ | z
                · exact .inl ⟨m, List.mem_cons_of_mem _ hm', e⟩
                · exact .inr z
            · show Paired _ (j :: jsOf cs ks ar) (vs.getD i .non :: mvs ks (arV ar vs))
              exact .cons (by rw [ev]; exact e4) i7
          | dead => cases h
          | bor _ _ => cases h
  | false :: ks, .arg i :: ar, as, h, nd, hJ => by
    unfold fixA at h
    unfold jsOf at nd hJ ⊢
    unfold frA
    cases q : cs[i]? with
    | none => rw [q] at h; cases h
    | some c =>
      cases c with
      | slot j => rw [q] at h; cases h
      | val k =>
        rw [q] at h
        obtain ⟨d0, v, f, e1, e2, e3, e4, e5⟩ := ca.get q
        simp only [e1, Option.map_eq_some_iff] at h
        obtain ⟨as', h1, rfl⟩ := h
        obtain ⟨i1, i2, i3, i4, i5, i6, i7⟩ := fix_ok r ca hr h1 nd hJ
        have ev : vs.getD i .non = v := by rw [List.getD_eq_getElem?_getD, e2]; rfl
        have ef : frs.getD i [] = f := by rw [List.getD_eq_getElem?_getD, e3]; rfl
        have ap : ∀ j ∈ J, isOwn env j → ∀ a ∈ f, a ∉ fp j := fun j hj ho => val_apart r (hr (List.ne_nil_of_mem hj)) q e5 hj ho
        refine ⟨⟨by rw [ev, ef]; exact e4, i1⟩, ⟨fun x g hx hg a ha hm => ?_, i2⟩, by rw [List.length_cons, List.length_cons, i3], i4, fun x g hx hg => ?_, fun g hg => ?_, i7⟩
        · obtain ⟨m, hm', rfl⟩ := i5 x g hx hg
          rw [ef] at ha
          exact ap m (hJ m hm') (i4 m hm') a ha hm
        · cases x with
          | zero => simp at hx
          | succ x => exact i5 x g (by simpa using hx) (by simpa using hg)
        · rcases List.mem_cons.mp hg with rfl | hg
          · rw [ef]
            exact .inr ap
          · exact i6 g hg
  | false :: ks, .dfl d :: ar, as, h, nd, hJ => by
    unfold fixA at h
    unfold jsOf at nd hJ ⊢
    unfold frA
    split at h
    · rename_i hp
      rw [Option.map_eq_some_iff] at h
      obtain ⟨as', h1, rfl⟩ := h
      obtain ⟨i1, i2, i3, i4, i5, i6, i7⟩ := fix_ok r ca hr h1 nd hJ
      obtain ⟨v, hv⟩ := Option.isSome_iff_exists.mp hp
      have ev : (plainV d).getD .non = v := by rw [hv]; rfl
      refine ⟨⟨by rw [ev]; exact .plain hv, i1⟩, ⟨fun x g hx hg a ha => (by cases ha), i2⟩, by rw [List.length_cons, List.length_cons, i3], i4, fun x g hx hg => ?_, fun g hg => ?_, i7⟩
      · cases x with
        | zero => simp at hx
        | succ x => exact i5 x g (by simpa using hx) (by simpa using hg)
      · rcases List.mem_cons.mp hg with rfl | hg
        · exact .inr fun j _ _ a ha => by cases ha
        · exact i6 g hg
    · cases h
def fpD (js : List Nat) (fp : Fp) : Fp := fun i => if i ∈ js then [] else fp i
theorem hold_dead : ∀ {js : List Nat} {env : Evn} {i : Nat}, (∀ j ∈ js, j < env.length) → (isOwn (deadM js env) i ↔ isOwn env i ∧ i ∉ js) ∧ (isLk (deadM js env) i ↔ isLk env i ∧ i ∉ js)
  | [], env, i, _ => by simp [deadM]
  | j :: js, env, i, hl => by
    have hj := hl j (List.mem_cons_self ..)
    have ih := hold_dead (js := js) (env := putE j .dead env) (i := i) (fun m hm => by rw [putE_length]; exact hl m (List.mem_cons_of_mem _ hm))
    rw [deadM]
    rw [ih.1, ih.2]
    by_cases e : i = j
    · subst e
      have n1 : ¬ isOwn (putE i .dead env) i := fun ⟨d, q⟩ => by rw [putE_same hj] at q; cases q
      have n2 : ¬ isLk (putE i .dead env) i := fun ⟨d, q⟩ => by rw [putE_same hj] at q; cases q
      simp [n1, n2]
    · rw [isOwn_put e, isLk_put e, List.mem_cons]
      simp [e]
theorem deadM_length : ∀ (js : List Nat) (env : Evn), (deadM js env).length = env.length
  | [], env => rfl
  | j :: js, env => by rw [deadM, deadM_length js, putE_length]
theorem lk_dead : ∀ {js : List Nat} {env : Evn} {i : Nat}, (∀ j ∈ js, j < env.length) → isLk (deadM js env) i → (deadM js env)[i]? = env[i]?
  | [], env, i, _, h => rfl
  | j :: js, env, i, hl, h => by
    have hl' : ∀ m ∈ js, m < (putE j .dead env).length := fun m hm => by rw [putE_length]; exact hl m (List.mem_cons_of_mem _ hm)
    have h1 := lk_dead hl' h
    have h2 := ((hold_dead hl').2.mp h).1
    have ne : i ≠ j := fun z => by
      subst z
      obtain ⟨d, q⟩ := h2
      rw [putE_same (hl i (List.mem_cons_self ..))] at q
      cases q
    exact h1.trans (killS_lk ne h2)
theorem R.dead : ∀ {js : List Nat} {env : Evn} {fp : Fp}, R K Z F H env σ fp → (∀ j ∈ js, j < env.length) → R K Z F H (deadM js env) σ (fpD js fp)
  | [], env, fp, r, _ => by
    have e : fpD [] fp = fp := by funext i; simp [fpD]
    rw [e]
    exact r
  | j :: js, env, fp, r, hl => by
    have hj := hl j (List.mem_cons_self ..)
    have r1 := r.put (s' := .dead) (f' := []) hj (fun _ _ => rfl) rfl r.pin trivial
    have r2 := R.dead (js := js) r1 fun m hm => by rw [putE_length]; exact hl m (List.mem_cons_of_mem _ hm)
    have e : fpD js (fset fp j []) = fpD (j :: js) fp := by
      funext i
      unfold fpD fset
      by_cases h1 : i ∈ js
      · simp [h1]
      · by_cases h2 : i = j
        · simp [h2]
        · simp [h1, h2]
    rw [e] at r2
    exact r2
theorem R.out (r : R K Z F H env σ fp) {M : Addr → Prop} (e : FEv F H M F' H') (hM : ∀ a, M a → ¬ HoldA env fp a) (hB : ∀ a, M a → ¬ Z.B a) : R K Z F' H' env σ fp where
  sub := e.has
  slot := fun i => by
    have s := r.slot i
    unfold SlotR at s ⊢
    have go : ∀ {d v}, Rep K F H d v (fp i) → (∀ a ∈ fp i, ¬ M a) → Rep K F' H' d v (fp i) := fun {d v} h n => Rep.mono e.sub d v _ (fun a ha u hu => hu.same fun o ho => e.keep a o ho (n a ha)) h
    split at s
    · rename_i d q
      obtain ⟨v, h1, h2⟩ := s
      exact ⟨v, h1, go h2 fun a ha hm => hM a hm ⟨i, .inl ⟨d, q⟩, ha⟩⟩
    · rename_i d q
      obtain ⟨v, h1, h2, h3⟩ := s
      exact ⟨v, h1, go h2 fun a ha hm => hB a hm (h3 a ha), h3⟩
    · rename_i j d q
      obtain ⟨v, h1, h2, h3, h4⟩ := s
      exact ⟨v, h1, go h2 fun a ha hm => hM a hm ⟨j, h3, h4 a ha⟩, h3, h4⟩
    · trivial
  sep := r.sep
  sepB := r.sepB
  hF := fun i hi a ha => by
    cases q : F' a with
    | none => rfl
    | some u =>
      rcases e.new a (r.hF i hi a ha) (by rw [q]; exact fun z => by cases z) with z | z
      · exact absurd z (r.hold_dom hi ha)
      · exact absurd ⟨i, hi, ha⟩ (hM a z)
  domB := fun a h => e.dom a (r.domB a h)
  pin := r.pin
  gh := fun p hp => Rep.mono e.sub _ _ _ (fun a ha => by cases ha) (r.gh p hp)
  len := r.len
  nf := fun i hi a ha o u h => r.nf i hi a ha o u (e.nofz a o u h)
theorem R.putM : ∀ {js : List Nat} {ms : List D} {vs : List V} {nfs : List (List Addr)} {env : Evn} {fp : Fp}, R K Z F H env σ fp → js.Nodup → (∀ j ∈ js, j < env.length) → (∀ j ∈ js, ¬ hold env j) → Paired (fun j v => σ[j]? = some (some v)) js vs → RepA K F H ms vs nfs →
    (∀ (i j : Nat) (fi fj : List Addr), i ≠ j → nfs[i]? = some fi → nfs[j]? = some fj → ∀ a ∈ fi, a ∉ fj) → (∀ f ∈ nfs, ∀ a ∈ f, ¬ HoldA env fp a ∧ (¬ Z.B a ∧ F a = none) ∧ NF H a) →
    ∃ fp', R K Z F H (DL.putM js ms env) σ fp' ∧ (∀ a, OwnA (DL.putM js ms env) fp' a → OwnA env fp a ∨ ∃ f ∈ nfs, a ∈ f) ∧ (∀ i, isLk (DL.putM js ms env) i → (DL.putM js ms env)[i]? = env[i]? ∧ fp' i = fp i)
  | [], ms, vs, nfs, env, fp, r, nd, hl, hh, p, rep, ap, own => by
    cases p
    cases ms with
    | nil => exact ⟨fp, r, fun a h => .inl h, fun i h => ⟨rfl, rfl⟩⟩
    | cons m ms => exact rep.elim
  | j :: js, ms, vs, nfs, env, fp, r, nd, hl, hh, p, rep, ap, own => by
    cases p with
    | @cons _ v _ vs' hv pr =>
      cases ms with
      | nil => exact rep.elim
      | cons m ms =>
        obtain ⟨v', ws, f, fs, e1, rfl, h1, h2⟩ := rep.inv
        cases e1
        rw [List.nodup_cons] at nd
        have hj := hl j (List.mem_cons_self ..)
        have of := own f (List.mem_cons_self ..)
        have r1 := r.put (s' := .own m) (f' := f) hj (fun _ _ => rfl) rfl r.pin ⟨⟨v, hv, h1⟩, fun i _ hi a ha hm => (of a ha).1 ⟨i, hi, hm⟩, fun a ha => (of a ha).2⟩
        have hne : ∀ m ∈ js, m ≠ j := fun m hm z => nd.1 (z ▸ hm)
        have hold1 : ∀ {i a}, hold (putE j (.own m) env) i → a ∈ fset fp j f i → HoldA env fp a ∨ a ∈ f := fun {i a} hi ha => by
          by_cases e : i = j
          · subst e
            rw [fset_same] at ha
            exact .inr ha
          · rw [fset_ne e] at ha
            exact .inl ⟨i, (hold_put e).mp hi, ha⟩
        obtain ⟨fp', q1, q2, q3⟩ := R.putM (js := js) (ms := ms) (vs := vs') (nfs := fs) r1 nd.2 (fun m hm => by rw [putE_length]; exact hl m (List.mem_cons_of_mem _ hm)) (fun m hm z => hh m (List.mem_cons_of_mem _ hm) ((hold_put (hne m hm)).mp z)) pr h2
          (fun x y fx fy hxy hx hy => ap (x + 1) (y + 1) fx fy (by omega) (by simpa using hx) (by simpa using hy)) (fun g hg a ha => by
            have og := own g (List.mem_cons_of_mem _ hg) a ha
            refine ⟨fun ⟨i, hi, hm⟩ => ?_, og.2⟩
            rcases hold1 hi hm with z | z
            · exact og.1 z
            · obtain ⟨y, hy, ey⟩ := List.mem_iff_getElem.mp hg
              exact ap 0 (y + 1) f g (by omega) rfl (by simp [hy, ey]) a z ha)
        refine ⟨fp', q1, fun a h => ?_, fun i h => ?_⟩
        · rcases q2 a h with ⟨i, hi, ha⟩ | ⟨g, hg, ha⟩
          · by_cases e : i = j
            · subst e
              rw [fset_same] at ha
              exact .inr ⟨f, List.mem_cons_self .., ha⟩
            · rw [fset_ne e] at ha
              exact .inl ⟨i, (isOwn_put e).mp hi, ha⟩
          · exact .inr ⟨g, List.mem_cons_of_mem _ hg, ha⟩
        · obtain ⟨a1, a2⟩ := q3 i h
          have hi : isLk (putE j (.own m) env) i := let ⟨d, z⟩ := h; ⟨d, by rw [← a1]; exact z⟩
          by_cases e : i = j
          · subst e
            obtain ⟨d, z⟩ := hi
            rw [putE_same hj] at z
            cases z
          · rw [fset_ne e] at a2
            exact ⟨a1.trans (killS_lk e hi), a2⟩
theorem R.back (r : R K Z F H env σ fp) {js : List Nat} {M : Addr → Prop} {ms : List D} {vs : List V} {nfs : List (List Addr)} (ho : ∀ j ∈ js, isOwn env j) (nd : js.Nodup) (e : FEv F H M F' H') (hM : ∀ a, M a → ∃ j ∈ js, a ∈ fp j) (p : Paired (fun j v => σ[j]? = some (some v)) js vs)
    (rep : RepA K F' H' ms vs nfs) (ap : ∀ (i j : Nat) (fi fj : List Addr), i ≠ j → nfs[i]? = some fi → nfs[j]? = some fj → ∀ a ∈ fi, a ∉ fj) (own : ∀ f ∈ nfs, ∀ a ∈ f, (H a = none ∨ M a) ∧ F' a = none) :
    ∃ fp', Ev true F H env fp F' H' (backM js ms env) fp' ∧ R K Z F' H' (backM js ms env) σ fp' ∧ (∀ a, OwnA (backM js ms env) fp' a → (H a ≠ none ∧ ¬ M a) ∨ ∃ f ∈ nfs, a ∈ f) := by
  have hl : ∀ j ∈ js, j < env.length := fun j hj => let ⟨d, q⟩ := ho j hj; (List.getElem?_eq_some_iff.mp q).1
  have rd := r.dead hl
  have hd : ∀ {i}, hold (deadM js env) i → hold env i ∧ i ∉ js := fun {i} h => by
    rcases h with h | h
    · have z := (hold_dead hl).1.mp h
      exact ⟨.inl z.1, z.2⟩
    · have z := (hold_dead hl).2.mp h
      exact ⟨.inr z.1, z.2⟩
  have hMo : ∀ a, M a → OwnA env fp a := fun a h => let ⟨j, hj, ha⟩ := hM a h; ⟨j, ho j hj, ha⟩
  have hMd : ∀ a, M a → ¬ HoldA (deadM js env) (fpD js fp) a := fun a h ⟨i, hi, ha⟩ => by
    obtain ⟨h1, h2⟩ := hd hi
    obtain ⟨j, hj, hm⟩ := hM a h
    have ne : i ≠ j := fun z => h2 (z ▸ hj)
    unfold fpD at ha
    rw [if_neg h2] at ha
    exact r.sep i j ne h1 (.inl (ho j hj)) a ha hm
  have hdom : ∀ a, HoldA (deadM js env) (fpD js fp) a → H a ≠ none := fun a ⟨i, hi, ha⟩ => rd.hold_dom hi ha
  have ro := rd.out e hMd fun a h => r.own_B (hMo a h)
  obtain ⟨fp', q1, q2, q3⟩ := R.putM ro nd (fun j hj => by rw [deadM_length]; exact hl j hj) (fun j hj h => (hd h).2 hj) p rep ap fun f hf a ha => by
    obtain ⟨o1, o2⟩ := own f hf a ha
    refine ⟨fun h => ?_, ⟨fun hB => ?_, o2⟩, fun o u ho => ?_⟩
    · rcases o1 with z | z
      · exact hdom a h z
      · exact hMd a z h
    · rcases o1 with z | z
      · exact r.domB a hB z
      · exact r.own_B (hMo a z) hB
    · have h0 := e.nofz a o u ho
      rcases o1 with z | z
      · rw [z] at h0
        cases h0
      · exact r.own_nf (hMo a z) o u h0
  have ownd : ∀ a, OwnA (deadM js env) (fpD js fp) a → OwnA env fp a ∧ ¬ M a := fun a h => by
    refine ⟨?_, fun hm => hMd a hm (let ⟨i, hi, ha⟩ := h; ⟨i, .inl hi, ha⟩)⟩
    obtain ⟨i, hi, ha⟩ := h
    obtain ⟨h1, h2⟩ := (hold_dead hl).1.mp hi
    unfold fpD at ha
    rw [if_neg h2] at ha
    exact ⟨i, h1, ha⟩
  refine ⟨fp', ⟨fun a o h n => e.keep a o h fun z => n rfl (hMo a z), e.sub, fun a h1 h2 => (e.new a h1 h2).imp id fun z => ⟨rfl, hMo a z⟩, fun a h => ?_, fun i h => ?_, e.nofz, e.dom, fun z => by cases z⟩, q1, fun a h => ?_⟩
  · rcases q2 a h with z | ⟨f, hf, ha⟩
    · exact .inr (ownd a z).1
    · exact (own f hf a ha).1.imp id (hMo a)
  · obtain ⟨a1, a2⟩ := q3 i h
    have hi : isLk (deadM js env) i := let ⟨d, z⟩ := h; ⟨d, by rw [← a1]; exact z⟩
    have h2 := ((hold_dead hl).2.mp hi).2
    unfold fpD at a2
    rw [if_neg h2] at a2
    exact ⟨a1.trans (lk_dead hl hi), a2⟩
  · rcases q2 a h with z | z
    · exact .inl ⟨r.own_dom (ownd a z).1, (ownd a z).2⟩
    · exact .inr z
end
end DL
namespace DL
open PySem PySem.Spec L2
def foRs (js : List Nat) (e : Evn) : Fo → Rs D
  | .ret d ms => .ok d (backM js ms e)
  | .exc c x ms => .exc c x (backM js ms e)
  | .stuck => .stuck
def fCall (Fx : List D → Fo) (kinds : List Bool) (ar : List Ar) (cs : List CK) (fa : FA) : FE := fun env => (fa env).bind fun ds e =>
  if ((jsOf cs kinds ar).isEmpty || rootsOk cs (jsOf cs kinds ar) e) = true then (match fixA cs ds e kinds ar with
    | some as => foRs (jsOf cs kinds ar) e (Fx as)
    | none => .stuck) else .stuck
section
variable {K : PySem.W.Frag} {W : WX} {ε ε1 ε2 : Bool} {F H F1 H1 F2 H2 F' H' F0 H0 : Hp} {env env1 env2 env' env0 : Evn} {fp fp1 fp2 fp' fp0 : Fp} {Z : Zst} {σ : L2.St} {k k1 k2 : Kd} {cs cs1 cs2 : List CK} {ds ms as : List D} {vs : List V} {frs nfs : List (List Addr)} {kinds : List Bool} {ar : List Ar}
theorem Paired.nil_right {α β : Type} {P : α → β → Prop} {l : List β} (h : Paired P [] l) : l = [] := by cases h; rfl
theorem back_ok (r : R K Z F H env σ fp) {js : List Nat} {M : Addr → Prop} {ms : List D} {vs : List V} {nfs : List (List Addr)} (ho : ∀ j ∈ js, isOwn env j) (nd : js.Nodup) (e : FEv F H M F' H') (hM : ∀ a, M a → ∃ j ∈ js, a ∈ fp j) (p : Paired (fun j v => σ[j]? = some (some v)) js vs)
    (rep : RepA K F' H' ms vs nfs) (ap : ∀ (i j : Nat) (fi fj : List Addr), i ≠ j → nfs[i]? = some fi → nfs[j]? = some fj → ∀ a ∈ fi, a ∉ fj) (own : ∀ f ∈ nfs, ∀ a ∈ f, (H a = none ∨ M a) ∧ F' a = none) :
    ∃ fp', Ev (!js.isEmpty) F H env fp F' H' (backM js ms env) fp' ∧ R K Z F' H' (backM js ms env) σ fp' ∧ (∀ a, OwnA (backM js ms env) fp' a → (H a ≠ none ∧ ¬ M a) ∨ ∃ f ∈ nfs, a ∈ f) := by
  cases js with
  | cons j js => exact r.back ho nd e hM p rep ap own
  | nil =>
    have ev : vs = [] := Paired.nil_right p
    subst ev
    have em : ms = [] := by
      cases ms with
      | nil => rfl
      | cons m ms =>
        obtain ⟨_, _, _, _, e1, _⟩ := rep.inv
        cases e1
    subst em
    have nM : ∀ a, ¬ M a := fun a h => let ⟨_, hj, _⟩ := hM a h; by cases hj
    refine ⟨fp, ⟨fun a o h _ => e.keep a o h (nM a), e.sub, fun a h1 h2 => .inl ((e.new a h1 h2).resolve_right (nM a)), fun a h => .inr h, fun _ _ => ⟨rfl, rfl⟩, e.nofz, e.dom, fun _ => ⟨rfl, rfl⟩⟩, r.out e (fun a h => absurd h (nM a)) (fun a h => absurd h (nM a)), fun a h => .inl ⟨r.own_dom h, nM a⟩⟩
theorem muts_M (h5 : ∀ (i : Nat) (g : List Addr), kinds[i]? = some true → (frA cs frs fp kinds ar)[i]? = some g → ∃ j ∈ jsOf cs kinds ar, g = fp j) : ∀ a, MutA kinds (frA cs frs fp kinds ar) a → ∃ j ∈ jsOf cs kinds ar, a ∈ fp j := fun a ⟨i, f, h1, h2, ha⟩ => by
  obtain ⟨j, hj, e⟩ := h5 i f h1 h2
  exact ⟨j, hj, e ▸ ha⟩
theorem esim_call {tA : TAK} {fa : FA} {n : Nat} {kw : List Str} {gV : List V → List V → List V} {Fx : List D → Fo} (ha : KSim K W ε n cs tA fa) (hl : cs.length = n + kw.length) (hgV : ∀ vs zs, vs.length = n → zs.length = kw.length → gV vs zs = arV ar (vs ++ zs)) (nd : (jsOf cs kinds ar).Nodup) :
    ESim K W (ε || !(jsOf cs kinds ar).isEmpty) .own (tCl n kw (spD K kinds Fx) gV W tA) (fCall Fx kinds ar cs fa) := by
  intro Z F H env σ fp Q r0 hq
  refine ha Z F H env σ fp _ r0 (Post.bind hq orL orLF fun ds e1 h1 F1 H1 fp1 vs zs frs ev r1 hn ca => ?_)
  have hz : zs.length = kw.length := by
    have q := ca.len.2.1
    rw [List.length_append, hn] at q
    omega
  refine ⟨hn, hz, ?_⟩
  rw [hgV vs zs hn hz]
  split at h1
  case isFalse => exact h1.elim
  rename_i hr
  cases q : fixA cs ds e1 kinds ar with
  | none => rw [q] at h1; exact h1.elim
  | some as =>
    rw [q] at h1
    have hr' : jsOf cs kinds ar ≠ [] → rootsOk cs (jsOf cs kinds ar) e1 = true := fun z => by
      rw [Bool.or_eq_true] at hr
      rcases hr with hr | hr
      · exact absurd (List.isEmpty_iff.mp hr) z
      · exact hr
    obtain ⟨i1, i2, i3, i4, i5, i6, i7⟩ := fix_ok r1 ca hr' q nd fun j hj => hj
    refine ⟨F1, as, _, r1.sub, i1, i3, i2.sep, ?_⟩
    have hM := muts_M i5
    have h1' : Post K W (ε || !(jsOf cs kinds ar).isEmpty) Z F H env σ fp (fun d env' => ∀ F' H' fp' v fr, Ev (ε || !(jsOf cs kinds ar).isEmpty) F H env fp F' H' env' fp' → R K Z F' H' env' σ fp' → Rep K F' H' d v fr → KOk .own H env fp F' env' fp' fr → Q v H') (foRs (jsOf cs kinds ar) e1 (Fx as)) := h1
    cases q2 : Fx as with
    | stuck => rw [q2] at h1'; exact h1'.elim
    | ret d ms =>
      rw [q2] at h1'
      intro F' H' v fr nfs fe rp mu own
      obtain ⟨fp', b1, b2, b3⟩ := back_ok r1 i4 nd fe hM i7 mu.rep mu.apart mu.own
      refine h1' F' H' fp' v fr (ev.trans b1) b2 rp fun a ha => ?_
      obtain ⟨o1, o2, o3⟩ := own a ha
      refine ⟨?_, fun z => ?_, o2⟩
      · rcases o1 with z | z
        · exact .inl (ev.nd z)
        · obtain ⟨j, hj, hm⟩ := hM a z
          exact ev.own a ⟨j, i4 j hj, hm⟩
      · rcases b3 a z with ⟨z1, z2⟩ | ⟨f, hf, hm⟩
        · rcases o1 with y | y
          · exact z1 y
          · exact z2 y
        · exact o3 f hf hm
    | exc c x ms =>
      rw [q2] at h1'
      intro F' H' dx nfs fe rp mu
      obtain ⟨fp', b1, b2, b3⟩ := back_ok r1 i4 nd fe hM i7 mu.rep mu.apart mu.own
      exact h1' F' H' fp' dx (ev.trans b1) b2 rp
def isIns (cl m : Str) : D → Bool
  | .node _ (.ins c fs) _ => decide (c = cl) && !fs.contains m
  | _ => false
def fRcv (cl m : Str) (f : FE) (g : FA) : FA := fun env => (f env).bind fun d e => if isIns cl m d = true then (g e).map (d :: ·) else .stuck
def fRcvS (cl m : Str) (j : Nat) (g : FA) : FA := fun env => match env[j]? with
  | some (.own d) => if isIns cl m d = true then (g env).map (.non :: ·) else .stuck
  | _ => .stuck
def fMk (cl : Str) (Fx : List D → Fo) (kinds : List Bool) (ar : List Ar) (cs : List CK) (fa : FA) : FE := fun env => (fa env).bind fun ds e =>
  if ((jsOf cs kinds ar).isEmpty || rootsOk cs (jsOf cs kinds ar) e) = true then (match fixA cs ds e kinds ar with
    | some as => (match Fx (.node true (.ins cl []) [] :: as) with
      | .ret .non (m :: ms) => .ok m (backM (jsOf cs kinds ar) ms e)
      | .exc c x (_ :: ms) => .exc c x (backM (jsOf cs kinds ar) ms e)
      | _ => .stuck)
    | none => .stuck) else .stuck
end
structure DArgs (X : Cx) (W : WX) (ε : Bool) (cs : List CK) (es : List Expr) (f : FA) : Prop where
  ex : ∃ t, PA X es t ∧ CSim X.K W ε cs t f
structure DKw (X : Cx) (W : WX) (ε : Bool) (cs : List CK) (kws : List Keyword) (f : FA) : Prop where
  ex : ∃ t, PK X kws t ∧ CSim X.K W ε cs t f
structure DAll (X : Cx) (W : WX) (ε : Bool) (n : Nat) (ks : List Str) (cs : List CK) (es : List Expr) (kws : List Keyword) (f : FA) : Prop where
  ex : ∃ t, PArgs X es kws ks t ∧ KSim X.K W ε n cs t f
section
variable {X : Cx} {W : WX} {ε ε1 ε2 : Bool} {k : Kd} {e o : Expr} {es : List Expr} {kws : List Keyword} {ks : List Str} {cs cs1 cs2 : List CK} {f : FE} {fa g : FA} {p pos apos kpos : Pos} {x m : Str} {n : Nat}
theorem dg_nil : DArgs X W false [] [] aNil := ⟨_, pa_nil, csim_nil⟩
theorem dg_val (h1 : DE X W ε1 k e f) (h2 : DArgs X W ε2 cs es g) (hp : ε2 = true → ∀ j, k ≠ .bor j := by first | exact fun h => (nomatch h) | exact fun _ j h => (nomatch h)) (hs : starEach (e :: es) X.env = (false, eval e X.env) :: starEach es X.env := by rfl) : DArgs X W (ε1 || ε2) (.val k :: cs) (e :: es) (aCons f g) := by
  obtain ⟨t1, p1, s1⟩ := h1.ex
  obtain ⟨t2, p2, s2⟩ := h2.ex
  exact ⟨_, pa_cons p1 p2 hs, csim_val s1 s2 hp⟩
theorem dg_slot (j : Nat) (h2 : DArgs X W ε2 cs es g) (hN : X.N[j]? = some x := by rfl) (hv : Vis X.env.scope x := by first | exact Or.inl rfl | exact Or.inr (Or.inl rfl) | exact Or.inr (Or.inr rfl)) (hs : starEach (.Name x pos :: es) X.env = (false, eval (.Name x pos) X.env) :: starEach es X.env := by rfl)
    (hd : (x == ("__debug__" : Str)) = false := by decide) (hcd : (x == ("__classdict__" : Str)) = false := by decide) : DArgs X W ε2 (.slot j :: cs) (.Name x pos :: es) (aCons (fSlot j) g) := by
  obtain ⟨t2, p2, s2⟩ := h2.ex
  exact ⟨_, pa_cons (pe_var hN hv hd hcd) p2 hs, csim_slot s2⟩
theorem dall_pos (h : DArgs X W ε cs (e :: es) fa) (he : starEach (e :: es) X.env = (false, eval e X.env) :: starEach es X.env := by rfl) (hpl : ∀ pos, (backTo pos (starEach es X.env)).any (·.1) = false := by exact fun _ => rfl) : DAll X W ε cs.length [] cs (e :: es) [] fa := by
  obtain ⟨t, q, s⟩ := h.ex
  exact ⟨_, pargs_pos q he hpl, ksim_pos s⟩
variable {kinds : List Bool} {ar : List Ar} {Fx : List D → Fo} {kk : Nat} {fd : FuncData} {ps : List Str} {fA C : Addr} {gG : List Value → List Value → List Value} {gV : List V → List V → List V}
theorem de_call (FO : FnOk X.prog X.w X.K X.mg X.base (L2.CX X.prog X.w) kk fA fd ps (spD X.K kinds Fx)) (hr : Room kk X.A) (hm : X.mg x = some (.ref fA)) (hk : PySem.W.keepIn X.K (.ref fA) = true) (hb : KBn X.K fd ps n ks gG gV) (tk : Takes X W) (ha : DAll X W ε n ks cs es kws fa)
    (hgV : ∀ vs zs, vs.length = n → zs.length = ks.length → gV vs zs = arV ar (vs ++ zs)) (hl : cs.length = n + ks.length := by rfl) (nd : (jsOf cs kinds ar).Nodup := by decide) (hg : Gl X x := by rfl) (hdb : (x == ("__debug__" : Str)) = false := by decide) :
    DE X W (ε || !(jsOf cs kinds ar).isEmpty) .own (.Call (.Name x p) es kws pos) (fCall Fx kinds ar cs fa) := by
  obtain ⟨t, q, s⟩ := ha.ex
  exact ⟨_, pe_cl FO hr hg hm hk hb tk q hdb, esim_call s hl hgV nd⟩
end
end DL
namespace DL
open PySem PySem.Spec L2
def lockE (i : Nat) (env : Evn) : Evn := match env[i]? with
  | some (.own d) => env.set i (.bor (some i) d)
  | _ => env
def unlkE (i : Nat) (env : Evn) : Evn := match env[i]? with
  | some (.bor _ d) => env.set i (.own d)
  | _ => env
section
variable {K : PySem.W.Frag} {W : WX} {ε ε1 ε2 : Bool} {F H F1 H1 F2 H2 F' H' F0 H0 : Hp} {env env1 env2 env' env0 : Evn} {fp fp1 fp2 fp' fp0 : Fp} {Z : Zst} {σ : L2.St} {k k1 k2 : Kd} {ks : List Kd}
theorem SlotR.holds {j : Nat} (h : SlotR K Z F H env σ fp j) (e : env2[j]? = env[j]?) (hh : ∀ m, hold env m → hold env2 m) : SlotR K Z F H env2 σ fp j := by
  unfold SlotR at h ⊢
  rw [e]
  cases q : env[j]? with
  | none => trivial
  | some t =>
    rw [q] at h
    cases t with
    | dead => trivial
    | own d => exact h
    | bor m d =>
      cases m with
      | none => exact h
      | some m =>
        obtain ⟨v, h1, h2, h3, h4⟩ := h
        exact ⟨v, h1, h2, hh m h3, h4⟩
theorem set_get {α : Type} {l : List α} {i j : Nat} {x y : α} (h : l[i]? = some x) : (l.set i y)[j]? = if j = i then some y else l[j]? := by
  have hi := (List.getElem?_eq_some_iff.mp h).1
  by_cases e : j = i
  · subst e; rw [if_pos rfl, List.getElem?_set_self hi]
  · rw [if_neg e, List.getElem?_set_ne (Ne.symm e)]
theorem lock_own {i j : Nat} {d : D} (h : env[i]? = some (.own d)) : isOwn (env.set i (.bor (some i) d)) j ↔ isOwn env j ∧ j ≠ i := by
  unfold isOwn
  rw [set_get h]
  by_cases e : j = i
  · rw [if_pos e]; simp [e]
  · rw [if_neg e]; simp [e]
theorem lock_lk {i j : Nat} {d : D} (h : env[i]? = some (.own d)) : isLk (env.set i (.bor (some i) d)) j ↔ isLk env j ∨ j = i := by
  unfold isLk
  rw [set_get h]
  by_cases e : j = i
  · subst e; rw [if_pos rfl]; simp
  · rw [if_neg e]; simp [e]
theorem lock_hold {i j : Nat} {d : D} (h : env[i]? = some (.own d)) : hold (env.set i (.bor (some i) d)) j ↔ hold env j := by
  unfold hold
  rw [lock_own h, lock_lk h]
  constructor
  · rintro (⟨a, _⟩ | a | rfl)
    · exact .inl a
    · exact .inr a
    · exact .inl ⟨d, h⟩
  · rintro (a | a)
    · by_cases e : j = i
      · exact .inr (.inr e)
      · exact .inl ⟨a, e⟩
    · exact .inr (.inl a)
theorem R.lock {i : Nat} {d : D} (r : R K Z F H env σ fp) (h : env[i]? = some (.own d)) : R K Z F H (env.set i (.bor (some i) d)) σ fp where
  sub := r.sub
  slot := fun j => by
    by_cases e : j = i
    · subst e
      have s := r.slot j
      unfold SlotR at s ⊢
      rw [h] at s
      rw [set_get h, if_pos rfl]
      obtain ⟨v, s1, s2⟩ := s
      exact ⟨v, s1, s2, (lock_hold h).mpr (.inl ⟨d, h⟩), fun a ha => ha⟩
    · exact (r.slot j).holds (by rw [set_get h, if_neg e]) fun m hm => (lock_hold h).mpr hm
  sep := fun a b hab ha hb => r.sep a b hab ((lock_hold h).mp ha) ((lock_hold h).mp hb)
  sepB := fun a ha => r.sepB a ((lock_hold h).mp ha)
  hF := fun a ha => r.hF a ((lock_hold h).mp ha)
  domB := r.domB
  pin := r.pin
  gh := r.gh
  len := by rw [List.length_set]; exact r.len
  nf := fun j hj => r.nf j ((lock_own h).mp hj).1
theorem unlk_own {i j : Nat} {d : D} (h : env[i]? = some (.bor (some i) d)) : isOwn (env.set i (.own d)) j ↔ isOwn env j ∨ j = i := by
  unfold isOwn
  rw [set_get h]
  by_cases e : j = i
  · subst e; rw [if_pos rfl]; simp
  · rw [if_neg e]; simp [e]
theorem unlk_lk {i j : Nat} {d : D} (h : env[i]? = some (.bor (some i) d)) : isLk (env.set i (.own d)) j ↔ isLk env j ∧ j ≠ i := by
  unfold isLk
  rw [set_get h]
  by_cases e : j = i
  · subst e; rw [if_pos rfl]; simp
  · rw [if_neg e]; simp [e]
theorem unlk_hold {i j : Nat} {d : D} (h : env[i]? = some (.bor (some i) d)) : hold (env.set i (.own d)) j ↔ hold env j := by
  unfold hold
  rw [unlk_own h, unlk_lk h]
  constructor
  · rintro ((a | rfl) | ⟨a, _⟩)
    · exact .inl a
    · exact .inr ⟨d, h⟩
    · exact .inr a
  · rintro (a | a)
    · exact .inl (.inl a)
    · by_cases e : j = i
      · exact .inl (.inr e)
      · exact .inr ⟨a, e⟩
theorem R.unlk {i : Nat} {d : D} (r : R K Z F H env σ fp) (h : env[i]? = some (.bor (some i) d)) (nf : ∀ a ∈ fp i, NF H a) : R K Z F H (env.set i (.own d)) σ fp where
  sub := r.sub
  slot := fun j => by
    by_cases e : j = i
    · subst e
      have s := r.slot j
      unfold SlotR at s ⊢
      rw [h] at s
      rw [set_get h, if_pos rfl]
      obtain ⟨v, s1, s2, _⟩ := s
      exact ⟨v, s1, s2⟩
    · exact (r.slot j).holds (by rw [set_get h, if_neg e]) fun m hm => (unlk_hold h).mpr hm
  sep := fun a b hab ha hb => r.sep a b hab ((unlk_hold h).mp ha) ((unlk_hold h).mp hb)
  sepB := fun a ha => r.sepB a ((unlk_hold h).mp ha)
  hF := fun a ha => r.hF a ((unlk_hold h).mp ha)
  domB := r.domB
  pin := r.pin
  gh := r.gh
  len := by rw [List.length_set]; exact r.len
  nf := fun j hj => by
    rcases (unlk_own h).mp hj with hj | hj
    · exact r.nf j hj
    · rw [hj]; exact nf
theorem Ev.lock {i : Nat} {d : D} (h : env[i]? = some (.own d)) (e : Ev ε F H (env.set i (.bor (some i) d)) fp F' H' env' fp') :
    env'[i]? = some (.bor (some i) d) ∨ (∀ d', env'[i]? ≠ some (.bor (some i) d')) := by
  by_cases z : DL.isLk env' i
  · obtain ⟨a1, _⟩ := e.lks i z
    rw [set_get h, if_pos rfl] at a1
    exact .inl a1
  · exact .inr fun d' q => z ⟨d', q⟩
theorem Ev.unlk {i : Nat} {d : D} (h : env[i]? = some (.own d)) (e : Ev ε F H (env.set i (.bor (some i) d)) fp F' H' env' fp') (h' : env'[i]? = some (.bor (some i) d)) : Ev ε F H env fp F' H' (env'.set i (.own d)) fp' := by
  have oL : ∀ a, OwnA (env.set i (.bor (some i) d)) fp a → OwnA env fp a := fun a ⟨j, hj, ha⟩ => ⟨j, ((lock_own h).mp hj).1, ha⟩
  have hi : DL.isLk env' i := ⟨d, h'⟩
  refine ⟨fun a o x y => e.keep a o x fun z w => y z (oL a w), e.sub, fun a x y => (e.new a x y).imp id fun z => ⟨z.1, oL a z.2⟩, fun a ⟨j, hj, ha⟩ => ?_, fun j hj => ?_, e.nofz, e.dom, fun z => ?_⟩
  · rcases (unlk_own h').mp hj with hj | rfl
    · exact (e.own a ⟨j, hj, ha⟩).imp id (oL a)
    · exact .inr ⟨j, ⟨d, h⟩, by rw [← (e.lks j hi).2]; exact ha⟩
  · obtain ⟨h1, h2⟩ := (unlk_lk h').mp hj
    obtain ⟨a1, a2⟩ := e.lks j h1
    rw [set_get h, if_neg h2] at a1
    rw [set_get h', if_neg h2]
    exact ⟨a1, a2⟩
  · obtain ⟨a1, a2⟩ := e.pure z
    refine ⟨?_, a2⟩
    rw [a1, List.set_set]
    apply List.ext_getElem?
    intro j
    rw [set_get h]
    by_cases q : j = i
    · rw [if_pos q, q, h]
    · rw [if_neg q]
end
section
variable (K : PySem.W.Frag)
structure Foc (F H : Hp) (v : V) (fp : List Addr) (w : V) (fs : List Addr) (sub : D) (g : D → D) : Prop where
  rep : Rep K F H sub w fs
  sub : ∀ a ∈ fs, a ∈ fp
  put : ∀ F' H' sub' fs', (∀ a u, F a = some u → F' a = some u) → (∀ a ∈ fp, a ∉ fs → ∀ u, Has H a u → Has H' a u) → Rep K F' H' sub' w fs' → (∀ a ∈ fs', a ∈ fp → a ∈ fs) → sub'.frz = false →
    (g sub').frz = false ∧ ∃ fp', Rep K F' H' (g sub') v fp' ∧ ∀ a, a ∈ fp' → (a ∈ fp ∧ a ∉ fs) ∨ a ∈ fs'
end
section
variable {K : PySem.W.Frag} {F H F' H' : Hp} {v w : V} {fp fs : List Addr} {sub d c : D} {g : D → D}
theorem Foc.root (h : Rep K F H d v fp) : Foc K F H v fp v fp d id :=
  ⟨h, fun _ h => h, fun F' H' sub' fs' _ _ h _ z => ⟨z, fs', h, fun a ha => .inr ha⟩⟩
theorem Foc.mono (h : Foc K F H v fp w fs sub g) (hF : ∀ a u, F a = some u → F' a = some u) (hH : ∀ a ∈ fp, ∀ u, Has H a u → Has H' a u) : Foc K F' H' v fp w fs sub g :=
  ⟨Rep.mono hF sub w fs (fun a ha => hH a (h.sub a ha)) h.rep, h.sub, fun F2 H2 sub' fs' h1 h2 h3 h4 h5 => h.put F2 H2 sub' fs' (fun a u q => h1 a u (hF a u q)) (fun a ha n u q => h2 a ha n u (hH a ha u q)) h3 h4 h5⟩
theorem frzL_set : ∀ (xs : List D) (n : Nat) (c : D), c.frz = false → n < xs.length → frzL (xs.set n c) = false
  | [], n, c, h, hn => by simp at hn
  | x :: xs, 0, c, h, hn => by simp [frzL, h]
  | x :: xs, n + 1, c, h, hn => by
    rw [List.set_cons_succ, frzL, frzL_set xs n c h (by simpa using hn)]
    simp
theorem RepL.foc : ∀ (ds : List D) (vs : List V) (fp : List Addr) (n : Nat) (d : D), RepL K F H ds vs fp → ds[n]? = some d → ∃ (x : V) (fc : List Addr), vs[n]? = some x ∧ Rep K F H d x fc ∧ (∀ a ∈ fc, a ∈ fp) ∧
    ∀ F' H' d' fc', (∀ a u, F a = some u → F' a = some u) → (∀ a ∈ fp, a ∉ fc → ∀ u, Has H a u → Has H' a u) → Rep K F' H' d' x fc' → (∀ a ∈ fc', a ∈ fp → a ∈ fc) → ∃ fp', RepL K F' H' (ds.set n d') vs fp' ∧ ∀ a, a ∈ fp' → (a ∈ fp ∧ a ∉ fc) ∨ a ∈ fc'
  | [], vs, fp, n, d, h, e => by simp at e
  | c :: ds, vs, fp, 0, d, h, e => by
    simp at e
    subst e
    simp only [RepL] at h
    obtain ⟨v, ws, f1, f2, rfl, rfl, h1, h2, h3⟩ := h
    refine ⟨v, f1, rfl, h2, fun a ha => List.mem_append_left _ ha, fun F' H' d' fc' hF hH hd hc => ?_⟩
    have h3' := RepL.mono hF ds ws f2 (fun a ha u q => hH a (List.mem_append_right _ ha) (fun z => h1 a z ha) u q) h3
    refine ⟨fc' ++ f2, RepL.mk (fun a ha hm => ?_) hd h3', fun a ha => ?_⟩
    · exact h1 a (hc a ha (List.mem_append_right _ hm)) hm
    · rcases List.mem_append.mp ha with ha | ha
      · exact .inr ha
      · exact .inl ⟨List.mem_append_right _ ha, fun z => h1 a z ha⟩
  | c :: ds, vs, fp, n + 1, d, h, e => by
    simp only [RepL] at h
    obtain ⟨v, ws, f1, f2, rfl, rfl, h1, h2, h3⟩ := h
    obtain ⟨x, fc, e1, e2, e3, e4⟩ := RepL.foc ds ws f2 n d h3 (by simpa using e)
    refine ⟨x, fc, by simpa using e1, e2, fun a ha => List.mem_append_right _ (e3 a ha), fun F' H' d' fc' hF hH hd hc => ?_⟩
    obtain ⟨fp', q1, q2⟩ := e4 F' H' d' fc' hF (fun a ha => hH a (List.mem_append_right _ ha)) hd (fun a ha hm => hc a ha (List.mem_append_right _ hm))
    have h2' := Rep.mono hF c v f1 (fun a ha u q => hH a (List.mem_append_left _ ha) (fun z => h1 a ha (e3 a z)) u q) h2
    refine ⟨f1 ++ fp', RepL.mk (fun a ha hm => ?_) h2' q1, fun a ha => ?_⟩
    · rcases q2 a hm with z | z
      · exact h1 a ha z.1
      · exact h1 a ha (e3 a (hc a z (List.mem_append_left _ ha)))
    · rcases List.mem_append.mp ha with ha | ha
      · exact .inl ⟨List.mem_append_left _ ha, fun z => h1 a ha (e3 a z)⟩
      · exact (q2 a ha).imp (fun z => ⟨List.mem_append_right _ z.1, z.2⟩) id
theorem Foc.child {s : Sh} {xs : List D} {n : Nat} (h : Foc K F H v fp w fs (.node true s xs) g) (e : xs[n]? = some c) :
    ∃ (a : Addr) (u : HO) (vs : List V) (x : V) (fc : List Addr), w = .ref a ∧ a ∈ fs ∧ Has H a u ∧ IsN K s vs u ∧ vs[n]? = some x ∧ Foc K F H v fp x fc c (fun c' => g (.node true s (xs.set n c'))) := by
  have r := h.rep
  simp only [Rep] at r
  obtain ⟨a, u, vs, fq, rfl, rfl, h1, h2, h3, h4, h5⟩ := r
  obtain ⟨x, fc, e1, e2, e3, e4⟩ := RepL.foc xs vs fq n c h5 e
  have hn : n < xs.length := (List.getElem?_eq_some_iff.mp e).1
  refine ⟨a, u, vs, x, fc, rfl, List.mem_cons_self .., h1, h2, e1, ⟨e2, fun b hb => h.sub b (List.mem_cons_of_mem _ (e3 b hb)), fun F' H' c' fc' hF hH hc hd hz => ?_⟩⟩
  have ha : a ∉ fc := fun z => h3 (e3 a z)
  have hup := h.sub
  obtain ⟨fq', q1, q2⟩ := e4 F' H' c' fc' hF (fun b hb n => hH b (hup b (List.mem_cons_of_mem _ hb)) n) hc fun b hb hm => hd b hb (hup b (List.mem_cons_of_mem _ hm))
  have han : a ∉ fq' := fun z => by
    rcases q2 a z with y | y
    · exact h3 y.1
    · exact ha (hd a y (hup a (List.mem_cons_self ..)))
  have rp : Rep K F' H' (.node true s (xs.set n c')) (.ref a) (a :: fq') := by
    rw [Rep]
    exact ⟨a, u, vs, fq', rfl, rfl, hH a (hup a (List.mem_cons_self ..)) ha u h1, h2, han, fun _ => frzL_set xs n c' hz hn, q1⟩
  have hcl : ∀ b ∈ a :: fq', b ∈ fp → b ∈ a :: fq := fun b hb hm => by
    rcases List.mem_cons.mp hb with rfl | hb
    · exact List.mem_cons_self ..
    · rcases q2 b hb with y | y
      · exact List.mem_cons_of_mem _ y.1
      · exact List.mem_cons_of_mem _ (e3 b (hd b y hm))
  obtain ⟨p1, fp', p2, p3⟩ := h.put F' H' _ _ hF (fun b hb n => hH b hb fun z => n (List.mem_cons_of_mem _ (e3 b z))) rp hcl rfl
  refine ⟨p1, fp', p2, fun b hb => ?_⟩
  rcases p3 b hb with z | z
  · refine .inl ⟨z.1, fun y => z.2 (List.mem_cons_of_mem _ (e3 b y))⟩
  · rcases List.mem_cons.mp z with rfl | z
    · exact .inl ⟨hup _ (List.mem_cons_self ..), ha⟩
    · rcases q2 b z with y | y
      · exact .inl ⟨hup b (List.mem_cons_of_mem _ y.1), y.2⟩
      · exact .inr y
end
end DL
namespace DL
open PySem PySem.Spec L2
open PyProof.Rows (subscriptTail)
abbrev FP := Evn → Option (D × (D → D))
def PlSim (K : PySem.W.Frag) (i : Nat) (t : TE) (p : FP) : Prop := ∀ Z F H env σ fp v sub g Q, R K Z F H env σ fp → isOwn env i → σ[i]? = some (some v) → p env = some (sub, g) →
  (∀ F' H' w fs, Grow F H F' H' → Foc K F' H' v (fp i) w fs sub g → Q w H') → t σ H Q
structure DPl (X : Cx) (i : Nat) (e : Expr) (p : FP) : Prop where
  ex : ∃ t, PE X e t ∧ PlSim X.K i t p
  own : ∀ env x, p env = some x → ∃ d, env[i]? = some (.own d)
section
variable {K : PySem.W.Frag} {W : WX} {ε ε1 ε2 : Bool} {F H F1 H1 F2 H2 F' H' F0 H0 : Hp} {env env1 env2 env' env0 : Evn} {fp fp1 fp2 fp' fp0 : Fp} {Z : Zst} {σ : L2.St} {k k1 k2 : Kd} {ks : List Kd}
theorem Ev.grow (e : Ev false F H env fp F' H' env' fp') (r : R K Z F' H' env' σ fp') : Grow F H F' H' :=
  ⟨fun a o h => e.keep a o h (fun z => by cases z), e.sub, fun a h n => (e.new a h n).resolve_right (fun z => by cases z.1), r.sub, e.nofz⟩
def posK {κ : Type} [DecidableEq κ] : List κ → κ → Option Nat
  | [], _ => none
  | k :: ks, k' => if k = k' then some 0 else (posK ks k').map (· + 1)
theorem look_pos {κ α : Type} [DecidableEq κ] {k : κ} : ∀ {ks : List κ} {vs : List α} {n : Nat}, posK ks k = some n → look ks vs k = vs[n]?
  | [], vs, n, h => by cases h
  | g :: ks, vs, n, h => by
    unfold posK at h
    by_cases z : g = k
    · rw [if_pos z] at h
      cases h
      cases vs with
      | nil => rfl
      | cons v vs => simp [look, z]
    · rw [if_neg z, Option.map_eq_some_iff] at h
      obtain ⟨m, h1, rfl⟩ := h
      cases vs with
      | nil => rfl
      | cons v vs => simp [look, z, look_pos h1]
def atIx (s : Sh) (n : Nat) (k : D) : Option Nat := match s with
  | .lst => (match k with | .int i => ixN n i | _ => none)
  | .tup => (match k with | .int i => ixN n i | _ => none)
  | .dic ks => (keyD k).bind (posK ks)
  | .dit ks => (match k with | .node _ .tup ys => (keysD ys).bind (posK ks) | _ => none)
  | _ => none
def subAt (c : Option Nat) : D × (D → D) → Option (D × (D → D))
  | (.node true s xs, g) => c.bind fun n => (xs[n]?).map fun d => (d, fun d' => g (.node true s (xs.set n d')))
  | _ => none
def pVar (i : Nat) : FP := fun env => match env[i]? with
  | some (.own d) => some (d, id)
  | _ => none
def pIx (p : FP) (fi : FE) : FP := fun env => (p env).bind fun x => match x, fi env with
  | (.node true s xs, g), .ok k _ => subAt (atIx s xs.length k) (.node true s xs, g)
  | _, _ => none
theorem plsim_var {i : Nat} : PlSim K i (tVar i) (pVar i) := fun Z F H env σ fp v sub g Q r ho hv h hq => by
  unfold pVar at h
  cases q : env[i]? with
  | none => rw [q] at h; cases h
  | some t =>
    rw [q] at h
    cases t with
    | dead => cases h
    | bor _ _ => cases h
    | own d =>
      cases h
      have s := r.slot i
      unfold SlotR at s
      rw [q] at s
      obtain ⟨v', s1, s2⟩ := s
      rw [hv] at s1
      cases s1
      exact ⟨v, hv, hq F H v (fp i) (Grow.refl r.sub) (.root s2)⟩
section
variable {X : Cx} {i : Nat} {e ie : Expr} {p : FP} {fi : FE} {pos : Pos} {f : Str}
theorem pl_var (i : Nat) {x : Str} (hN : X.N[i]? = some x := by rfl) (hv : Vis X.env.scope x := by first | exact Or.inl rfl | exact Or.inr (Or.inl rfl) | exact Or.inr (Or.inr rfl)) (hd : (x == ("__debug__" : Str)) = false := by decide)
    (hcd : (x == ("__classdict__" : Str)) = false := by decide) : DPl X i (.Name x pos) (pVar i) := ⟨⟨_, pe_var hN hv hd hcd, plsim_var⟩, fun env x h => by
  unfold pVar at h
  split at h
  · rename_i d q
    exact ⟨d, q⟩
  · cases h⟩
end
end
section
variable {X : Cx}
def rGet (K : PySem.W.Frag) : R2 := fun x y H Q => rIx K x y H Q ∨ ∃ a v, x = .ref a ∧ DGet H a y (some v) ∧ Q v H
theorem ix_dictR (hu : X.A.units + 1 < cLine) : IxR X (fun x y H Q => ∃ a v, x = .ref a ∧ DGet H a y (some v) ∧ Q v H) := by
  intro value slice pins s σ H x y v u Q I rx ry ⟨a, w, ex, g, q⟩ hs
  subst ex
  obtain rfl : v = Value.ref a := rx
  have hT := dict_typeIs I g
  have hl := PySem.F.slot_dict_getitem.lookup
  have h₂ := d_getItem (E := X.xe) hu I g ry fun w' s3 I3 rw' => show EP X pins σ Q w' s3 from ⟨w, H, I3, rw', q⟩
  unfold subscriptTail
  refine wpAny_bind ?_
  rw [getitemInPython_of_ne hT.not_modules]
  refine wpAny_bind (wpAny_specialOf hT hl ?_)
  have fin : wpAny (model X.prog X.w) X.A (subscripted slice false (Value.ref a) u) (fun r s₃ => wpAny (model X.prog X.w) X.A (letTemporaryGo value (Value.ref a) r >>= fun _ => pure r) (EP X pins σ Q) X.xe s₃) X.xe s := by
    rw [hs]
    exact wpAny_operating (wpAny_mono h₂ (fun r s₃ h₃ => wpAny_bind (wpAny_letTemporaryGo (wpAny_pure h₃))) fun _ _ x => x)
  first
    | exact wpAny_pure (wpAny_bind fin)
    | exact wpAny_bind (wpAny_pure (wpAny_bind fin))
    | exact wpAny_bind fin
theorem ix_any (hu : X.A.units + 1 < cLine) : IxR X (rGet X.K) := ix_seq.or (ix_dictR hu)
end
end DL
namespace DL
open PySem PySem.Spec L2
section
variable {X : Cx} {W : WX} {ε ε1 ε2 : Bool} {k k1 k2 : Kd} {ks : List Kd} {a b e ie : Expr} {fa fb fi : FE} {i : Nat} {p : FP} {pos : Pos}
def oItm : List D → Option D := fun ds => match ds with
  | [.node o (.dic ks) xs, k] => oGet [.node o (.dic ks) xs, k]
  | [.node o (.dit ks) xs, k] => oGet [.node o (.dit ks) xs, k]
  | ds => oIx ds
theorem ok_itm {K : PySem.W.Frag} : AccOk K (l2 (rGet K)) oItm := by
  intro F H ds vs fr0 frs d Q hs rep e q
  have imp : ∀ {r1 r2 : R2} {vs}, (∀ x y, r1 x y H Q → r2 x y H Q) → l2 r1 vs H Q → l2 r2 vs H Q := by
    intro r1 r2 vs h x
    match vs, x with
    | [x, y], z => exact h x y z
  unfold oItm at e
  split at e
  · exact imp (fun x y h => .inr h) (ok_get F H _ vs fr0 frs d Q hs rep e q)
  · exact imp (fun x y h => .inr h) (ok_get F H _ vs fr0 frs d Q hs rep e q)
  · exact imp (fun x y h => .inl h) (ok_ix F H _ vs fr0 frs d Q hs rep e q)
theorem de_sub (hu : X.A.units + 1 < cLine) (ha : DE X W ε1 k1 a fa) (hb : DE X W ε2 k2 b fb) (hs : PlainIx b := by exact fun _ _ => rfl) (hp : ε2 = true → ∀ j, k1 ≠ .bor j := by first | exact fun h => (nomatch h) | exact fun _ j h => (nomatch h)) :
    DE X W (ε1 || (ε2 || false)) k1 (.Subscript a b pos) (fOp oItm (aCons fa (aCons fb aNil))) := by
  obtain ⟨ta, tb, p1, p2, s⟩ := da_two ha hb hp
  exact ⟨_, pe_ix (ix_any hu) p1 p2 hs, esim_acc s ok_itm fun σ H Q h => h⟩
theorem pl_ix {i : Nat} (hu : X.A.units + 1 < cLine) (h : DPl X i e p) (hi : DE X W false k ie fi) (hs : PlainIx ie := by exact fun _ _ => rfl) : DPl X i (.Subscript e ie pos) (pIx p fi) := by
  obtain ⟨t, p1, s1⟩ := h.ex
  obtain ⟨t2, p2, s2⟩ := hi.ex
  refine ⟨⟨_, pe_ix (ix_any hu) p1 p2 hs, fun Z F H env σ fp v sub g Q r ho hv h hq => ?_⟩, fun env x h0 => by
    unfold pIx at h0
    rw [Option.bind_eq_some_iff] at h0
    obtain ⟨y, h1, _⟩ := h0
    exact h.own env y h1⟩
  unfold pIx at h
  rw [Option.bind_eq_some_iff] at h
  obtain ⟨⟨d0, g0⟩, h1, h2⟩ := h
  refine s1 Z F H env σ fp v d0 g0 _ r ho hv h1 fun F1 H1 w fs gr foc => ?_
  have r1 := r.grow gr
  cases d0 with
  | node o s xs =>
    cases o with
    | false => cases h2
    | true =>
      cases q : fi env with
      | exc _ _ _ => rw [q] at h2; cases h2
      | stuck => rw [q] at h2; cases h2
      | ok kd e1 =>
        simp only [q] at h2
        unfold subAt at h2
        rw [Option.bind_eq_some_iff] at h2
        obtain ⟨n, h3, h4⟩ := h2
        rw [Option.map_eq_some_iff] at h4
        obtain ⟨c0, h5, h6⟩ := h4
        cases h6
        refine s2 Z F1 H1 env σ fp _ r1 ?_
        rw [q]
        intro F2 H2 fp2 y fy ev r2 rp ko
        have g2 := ev.grow r2
        have foc2 := foc.mono g2.sub fun b hb u hu => hu.same fun o ho => g2.keep b o ho
        obtain ⟨a, u, vs, x, fc, rfl, ha, hu', hi, hx, foc'⟩ := foc2.child h5
        have fin := hq F2 H2 x fc (gr.trans g2) foc'
        unfold atIx at h3
        have hlen : ∀ {vs : List V}, vs.length = xs.length → L2.atI vs = fun j => (ixN xs.length j).bind fun n => vs[n]? := by
          intro vs hl
          funext j
          unfold L2.atI
          rw [hl]
        have rl := foc2.rep
        simp only [Rep] at rl
        obtain ⟨a', u'', vs', fq', ea, _, hu2, hi2, _, _, rl⟩ := rl
        cases ea
        cases s with
        | tup =>
          cases kd with
          | int j =>
            have hi' : u = .tup vs := hi
            subst hi'
            have e1 := hu'.ex rfl
            have e2 := hu2.ex (by rw [show u'' = HO.tup vs' from hi2]; rfl)
            rw [e1] at e2
            have e3 : HO.tup vs = HO.tup vs' := (Option.some.inj e2).trans hi2
            cases e3
            obtain rfl : y = .int j := rp.1
            exact .inl (.inr (.inl ⟨a, vs, j, x, rfl, rfl, .inl hu'.rd, by rw [hlen rl.len]; show (ixN xs.length j).bind (fun n => vs[n]?) = some x; have h3' : ixN xs.length j = some n := h3; rw [h3']; exact hx, fin⟩))
          | _ => cases h3
        | lst =>
          cases kd with
          | int j =>
            have hi' : u = .lst vs := hi
            subst hi'
            have e1 := hu'.ex rfl
            have e2 := hu2.ex (by rw [show u'' = HO.lst vs' from hi2]; rfl)
            rw [e1] at e2
            have e3 : HO.lst vs = HO.lst vs' := (Option.some.inj e2).trans hi2
            cases e3
            obtain rfl : y = .int j := rp.1
            exact .inl (.inl ⟨a, vs, j, x, rfl, rfl, .inl hu'.rd, by rw [hlen rl.len]; show (ixN xs.length j).bind (fun n => vs[n]?) = some x; have h3' : ixN xs.length j = some n := h3; rw [h3']; exact hx, fin⟩)
          | _ => cases h3
        | dic kk =>
          obtain ⟨hl, rfl⟩ := hi
          rw [Option.bind_eq_some_iff] at h3
          obtain ⟨ky, h7, h8⟩ := h3
          exact .inr ⟨a, x, rfl, .inl ⟨_, ky, hu'.rd, keyD_rep h7 rp, by rw [look_valV, look_pos h8]; exact hx.symm⟩, fin⟩
        | dit kk =>
          obtain ⟨hl, rfl⟩ := hi
          cases kd with
          | node ok' sk ys =>
            cases sk with
            | tup =>
              simp only [Option.bind_eq_some_iff] at h3
              obtain ⟨ky, h7, h8⟩ := h3
              obtain ⟨b, ws, fq2, rfl, hb, rb, _⟩ := rp.tup r2.sub
              exact .inr ⟨a, x, rfl, .inr ⟨_, ky, b, hu'.rd, rfl, by rw [hb, keysD_rep h7 rb], by rw [look_valV, look_pos h8]; exact hx.symm⟩, fin⟩
            | _ => cases h3
          | _ => cases h3
        | ins _ _ => cases h3
        | exd _ => cases h3
  | _ => cases h2
def tyD : D → Option String
  | .node true .lst _ => some "list"
  | .node true (.dic _) _ => some "dict"
  | .node true (.dit _) _ => some "dict"
  | _ => none
def lkD (env : Evn) (i : Nat) : Option D := match env[i]? with
  | some (.bor (some m) d) => if m = i then some d else none
  | _ => none
theorem lkD_get {env : Evn} {i : Nat} {d : D} (h : lkD env i = some d) : env[i]? = some (.bor (some i) d) := by
  unfold lkD at h
  split at h
  · rename_i q
    split at h
    · rename_i z
      subst z
      cases h
      exact q
    · cases h
  · cases h
def endMut (i : Nat) (sub : D) (g : D → D) (op : D → List D → Option (D × D)) : Rs (List D) → Rs D
  | .ok ds e1 => (match lkD e1 i, op sub ds with
    | some _, some (r, sub') => .ok r (putE i (.own (g sub')) e1)
    | _, _ => .stuck)
  | .exc c x e1 => (match lkD e1 i with
    | some d => .exc c x (e1.set i (.own d))
    | none => .stuck)
  | .stuck => .stuck
def fMut (i : Nat) (p : FP) (T : String) (fa : FA) (op : D → List D → Option (D × D)) : FE := fun env => match p env with
  | some (sub, g) => if tyD sub = some T then endMut i sub g op (fa (lockE i env)) else .stuck
  | none => .stuck
structure MOp (K : PySem.W.Frag) (r : V → List V → Hp → VK → Prop) (op : D → List D → Option (D × D)) (ks : List Kd) : Prop where
  ok : ∀ F H a fs sub ws frs ds rd sub' Q, (∀ a u, F a = some u → Has H a u) → Rep K F H sub (.ref a) fs → (∀ b ∈ fs, NF H b ∧ F b = none) → RepA K F H ds ws frs →
    (∀ (j : Nat) (f : List Addr), ks[j]? = some .own → frs[j]? = some f → ∀ b ∈ f, b ∉ fs) → (∀ (j : Nat) (f : List Addr), ks[j]? = some .frz → frs[j]? = some f → f = []) → ks.length = ds.length → op sub ds = some (rd, sub') →
    (∀ u' vr fr fs', notFz u' = true → Rep K F (upd H a u') sub' (.ref a) fs' → Rep K F (upd H a u') rd vr fr → (∀ b ∈ fr, b ∉ fs') → (∀ b, b ∈ fs' ∨ b ∈ fr → b ∈ fs ∨ ∃ (j : Nat) (f : List Addr), ks[j]? = some .own ∧ frs[j]? = some f ∧ b ∈ f) → a ∈ fs → sub'.frz = false → Q vr (upd H a u')) →
    r (.ref a) ws H Q
end
section
variable {K : PySem.W.Frag} {W : WX} {ε ε1 ε2 : Bool} {F H F1 H1 F2 H2 F' H' F0 H0 : Hp} {env env1 env2 env' env0 : Evn} {fp fp1 fp2 fp' fp0 : Fp} {Z : Zst} {σ : L2.St} {k k1 k2 : Kd} {ks : List Kd}
theorem lockE_own {i : Nat} {d : D} (h : env[i]? = some (.own d)) : lockE i env = env.set i (.bor (some i) d) := by unfold lockE; rw [h]
theorem KOks.len : ∀ {ks : List Kd} {frs : List (List Addr)}, KOks H env fp F' env' fp' ks frs → ks.length = frs.length
  | [], [], _ => rfl
  | [], _ :: _, h => h.elim
  | _ :: _, [], h => h.elim
  | k :: ks, f :: fs, h => by rw [List.length_cons, List.length_cons, KOks.len h.2.2]
theorem putE_set {i : Nat} {s t : Sl} : putE i s (env.set i t) = putE i s env := by
  apply List.ext_getElem?
  intro j
  by_cases e : j = i
  · subst e
    by_cases h : j < env.length
    · rw [putE_same h, putE_same (by rw [List.length_set]; exact h)]
    · rw [List.getElem?_eq_none (by rw [putE_length, List.length_set]; omega), List.getElem?_eq_none (by rw [putE_length]; omega)]
  · rw [putE_ne e, putE_ne e, List.getElem?_set_ne (Ne.symm e)]
theorem R.change {i : Nat} {d' : D} {v : V} {a : Addr} {u' : HO} {fn : List Addr} (r : R K Z F H env σ fp) (hi : i < env.length) (hh : hold env i) (ha : a ∈ fp i) (hv : σ[i]? = some (some v)) (hz : notFz u' = true)
    (rp : Rep K F (upd H a u') d' v fn) (hn : ∀ b ∈ fn, (∀ j, j ≠ i → hold env j → b ∉ fp j) ∧ (¬ Z.B b ∧ F b = none) ∧ NF H b) : R K Z F (upd H a u') (putE i (.own d') env) σ (fset fp i fn) := by
  have rd := r.put (s' := .dead) (f' := []) hi (fun _ _ => rfl) rfl r.pin trivial
  have fe : FEv F H (fun b => b = a) F (upd H a u') := by
    refine ⟨fun b o ho n => by rw [upd_ne n]; exact ho, fun _ _ h => h, fun b h n => absurd h n, fun b hb => ?_, fun b u hb => ?_, nofz_upd hz⟩
    · by_cases e : b = a
      · rw [e, upd_same]; exact fun z => by cases z
      · rw [upd_ne e]; exact hb
    · have ne : b ≠ a := fun z => by
        rw [z, r.hF i hh a ha] at hb
        cases hb
      exact (r.sub b u hb).same fun o ho => by rw [upd_ne ne]; exact ho
  have ro := rd.out fe (fun b hb ⟨j, hj, hm⟩ => ?_) fun b hb hB => r.sepB i hh b (by rw [hb]; exact ha) hB
  · have hi2 : i < (putE i .dead env).length := by rw [putE_length]; exact hi
    have rf := ro.put (s' := .own d') (f' := fn) hi2 (fun _ _ => rfl) rfl r.pin ⟨⟨v, hv, rp⟩, fun j hj hjh b hb => ?_, fun b hb => ⟨(hn b hb).2.1, fun o u ho => (hn b hb).2.2 o u (nofz_upd hz b o u ho)⟩⟩
    · have e1 : putE i (.own d') (putE i .dead env) = putE i (.own d') env := by
        apply List.ext_getElem?
        intro j
        by_cases e : j = i
        · rw [e, putE_same hi2, putE_same hi]
        · rw [putE_ne e, putE_ne e, putE_ne e, Option.map_map]
          congr 1
          funext s
          cases s with
          | dead => rfl
          | own _ => rfl
          | bor m d =>
            cases m with
            | none => rfl
            | some m =>
              show killS i (killS i (.bor (some m) d)) = killS i (.bor (some m) d)
              by_cases q : m = i
              · simp [killS, q]
              · simp [killS, q]
      have e2 : fset (fset fp i []) i fn = fset fp i fn := by
        funext j
        unfold fset
        by_cases e : j = i
        · rw [if_pos e, if_pos e]
        · rw [if_neg e, if_neg e, if_neg e]
      rw [e1, e2] at rf
      exact rf
    · rw [fset_ne hj]
      exact (hn b hb).1 j hj ((hold_put hj).mp hjh)
  · subst hb
    by_cases e : j = i
    · subst e
      rw [fset_same] at hm
      cases hm
    · rw [fset_ne e] at hm
      exact r.sep j i e ((hold_put e).mp hj) hh b hm ha
end
end DL
namespace DL
open PySem PySem.Spec L2
section
variable {K : PySem.W.Frag} {W : WX} {ε ε1 ε2 : Bool} {F H F1 H1 F2 H2 F' H' F0 H0 : Hp} {env env1 env2 env' env0 : Evn} {fp fp1 fp2 fp' fp0 : Fp} {Z : Zst} {σ : L2.St} {k k1 k2 : Kd} {ks : List Kd}
theorem Has.nf {H : Hp} {a : Addr} {u : HO} (h : Has H a u) (n : NF H a) : H a = some u := by
  rcases h with h | ⟨⟨o, h⟩, _⟩
  · exact h
  · exact absurd h fun z => n o u z
theorem tyV_of {T : String} {sub : D} {a : Addr} {fs : List Addr} (ht : tyD sub = some T) (rp : Rep K F H sub (.ref a) fs) (nf : ∀ b ∈ fs, NF H b) : tyV K T (.ref a) H := by
  cases sub with
  | node o s xs =>
    cases o with
    | true =>
      simp only [Rep] at rp
      obtain ⟨a', u, vs, fq, ea, rfl, h1, h2, h3, h4, h5⟩ := rp
      cases ea
      have ex := h1.nf (nf a (List.mem_cons_self ..))
      cases s with
      | lst =>
        cases ht
        have h2' : u = .lst vs := h2
        exact .inl ⟨rfl, vs, .inl (.inl (by rw [ex, h2']))⟩
      | dic kk =>
        cases ht
        obtain ⟨_, rfl⟩ := h2
        exact .inr (.inr (.inl ⟨rfl, .inl ⟨_, ex⟩⟩))
      | dit kk =>
        cases ht
        obtain ⟨_, rfl⟩ := h2
        exact .inr (.inr (.inl ⟨rfl, .inr ⟨_, ex⟩⟩))
      | tup => cases ht
      | ins _ _ => cases ht
      | exd _ => cases ht
    | false => cases s <;> cases ht
  | _ => cases ht
theorem mut_core {i : Nat} {d1 sub sub' rd : D} {g : D → D} {v : V} {a : Addr} {fs : List Addr} {ds : List D} {ws : List V} {frs : List (List Addr)} {op : D → List D → Option (D × D)} {r : V → List V → Hp → VK → Prop} {Q : VK}
    (ev : Ev ε F0 H0 env0 fp0 F1 H1 env1 fp1) (r1 : R K Z F1 H1 env1 σ fp1) (h1 : env1[i]? = some (.own d1)) (hv : σ[i]? = some (some v)) (foc1 : Foc K F1 H1 v (fp1 i) (.ref a) fs sub g)
    (rep : RepA K F1 H1 ds ws frs) (hA : ∀ (j : Nat) (f : List Addr), ks[j]? = some .own → frs[j]? = some f → ∀ b ∈ f, (H0 b = none ∨ OwnA env0 fp0 b) ∧ (∀ j, hold env1 j → b ∉ fp1 j) ∧ (¬ Z.B b ∧ F1 b = none) ∧ NF H1 b)
    (hZ : ∀ (j : Nat) (f : List Addr), ks[j]? = some .frz → frs[j]? = some f → f = []) (hl : ks.length = ds.length) (mo : MOp K r op ks) (hop : op sub ds = some (rd, sub'))
    (hq : ∀ u' fn u fr, notFz u' = true → a ∈ fp1 i → (∀ b ∈ fn, b ∈ fp1 i ∨ ∃ (j : Nat) (f : List Addr), ks[j]? = some .own ∧ frs[j]? = some f ∧ b ∈ f) → Ev true F0 H0 env0 fp0 F1 (upd H1 a u') (putE i (.own (g sub')) env1) (fset fp1 i fn) → R K Z F1 (upd H1 a u') (putE i (.own (g sub')) env1) σ (fset fp1 i fn) → Rep K F1 (upd H1 a u') rd u fr → KOk .own H0 env0 fp0 F1 (putE i (.own (g sub')) env1) (fset fp1 i fn) fr → Q u (upd H1 a u')) : r (.ref a) ws H1 Q := by
  have hi1 : i < env1.length := (List.getElem?_eq_some_iff.mp h1).1
  have ow1 : isOwn env1 i := ⟨d1, h1⟩
  have hh : hold env1 i := .inl ow1
  have nf1 : ∀ b ∈ fp1 i, NF H1 b := fun b hb => r1.nf i ow1 b hb
  refine mo.ok F1 H1 a fs sub ws frs ds rd sub' Q r1.sub foc1.rep (fun b hb => ⟨nf1 b (foc1.sub b hb), r1.hF i hh b (foc1.sub b hb)⟩) rep (fun j f h2 h3 b hb hm => (hA j f h2 h3 b hb).2.1 i hh (foc1.sub b hm)) hZ hl hop
    fun u' vr fr fs' hz rp' rpr hap hsub hafs hfrz => ?_
  have hup : ∀ b, b ≠ a → ∀ u, Has H1 b u → Has (upd H1 a u') b u := fun b ne u hu => hu.same fun o ho => by rw [upd_ne ne]; exact ho
  obtain ⟨pz, fn, p2, p3⟩ := foc1.put F1 (upd H1 a u') sub' fs' (fun _ _ h => h) (fun b hb hn u hu => hup b (fun z => hn (by rw [z]; exact hafs)) u hu) rp' (fun b hb hm => by
    rcases hsub b (.inl hb) with z | ⟨j, f, h2, h3, h4⟩
    · exact z
    · exact absurd hm ((hA j f h2 h3 b h4).2.1 i hh)) hfrz
  have hin : a ∈ fp1 i := foc1.sub a hafs
  have hfn : ∀ b ∈ fn, b ∈ fp1 i ∨ ∃ (j : Nat) (f : List Addr), ks[j]? = some .own ∧ frs[j]? = some f ∧ b ∈ f := fun b hb => by
    rcases p3 b hb with z | z
    · exact .inl z.1
    · rcases hsub b (.inl z) with y | y
      · exact .inl (foc1.sub b y)
      · exact .inr y
  have rF := r1.change (d' := g sub') (fn := fn) hi1 hh hin hv hz p2 fun b hb => by
    rcases hfn b hb with z | ⟨j, f, h2, h3, h4⟩
    · exact ⟨fun j hj hjh hm => r1.sep j i hj hjh hh b hm z, ⟨r1.sepB i hh b z, r1.hF i hh b z⟩, nf1 b z⟩
    · have y := (hA j f h2 h3 b h4).2
      exact ⟨fun j _ hjh => y.1 j hjh, y.2.1, y.2.2⟩
  have own0 : ∀ b ∈ fp1 i, H0 b = none ∨ OwnA env0 fp0 b := fun b hb => ev.own b ⟨i, ow1, hb⟩
  refine hq u' fn vr fr hz hin hfn ⟨fun b o ho hn => ?_, ev.sub, fun b x y => (ev.new b x y).imp id fun z => ⟨rfl, z.2⟩, fun b ⟨j, hj, hb⟩ => ?_, fun j hj => ?_, fun b o u ho => ev.nofz b o u (nofz_upd hz b o u ho), fun b hb => ?_, fun z => by cases z⟩ rF rpr fun b hb => ⟨?_, fun ⟨j, hj, hm⟩ => ?_, ?_⟩
  · have ne : b ≠ a := fun z => by
      rcases own0 a hin with w | w
      · rw [z, w] at ho; cases ho
      · exact hn rfl (by rw [z]; exact w)
    rw [upd_ne ne]
    exact ev.keep b o ho fun _ z => hn rfl z
  · by_cases e : j = i
    · subst e
      rw [fset_same] at hb
      rcases hfn b hb with z | ⟨m, f, h2, h3, h4⟩
      · exact own0 b z
      · exact (hA m f h2 h3 b h4).1
    · rw [fset_ne e] at hb
      exact ev.own b ⟨j, (isOwn_put e).mp hj, hb⟩
  · have e : j ≠ i := fun z => by
      subst z
      obtain ⟨d, q⟩ := hj
      rw [putE_same hi1] at q
      cases q
    obtain ⟨b1, b2⟩ := ev.lks j ((isLk_put e).mp hj)
    rw [killS_lk e hj, fset_ne e]
    exact ⟨b1, b2⟩
  · by_cases e : b = a
    · rw [e, upd_same]; exact fun z => by cases z
    · rw [upd_ne e]; exact ev.dom b hb
  · rcases hsub b (.inr hb) with z | ⟨m, f, h2, h3, h4⟩
    · exact own0 b (foc1.sub b z)
    · exact (hA m f h2 h3 b h4).1
  · rcases hsub b (.inr hb) with z | ⟨m, f, h2, h3, h4⟩
    · have zi : b ∈ fp1 i := foc1.sub b z
      by_cases e : j = i
      · subst e
        rw [fset_same] at hm
        rcases p3 b hm with y | y
        · exact y.2 z
        · exact hap b hb y
      · rw [fset_ne e] at hm
        exact r1.sep j i e (.inl ((isOwn_put e).mp hj)) hh b hm zi
    · have y := (hA m f h2 h3 b h4).2
      by_cases e : j = i
      · subst e
        rw [fset_same] at hm
        rcases p3 b hm with w | w
        · exact y.1 j hh w.1
        · exact hap b hb w
      · rw [fset_ne e] at hm
        exact y.1 j (.inl ((isOwn_put e).mp hj)) hm
  · rcases hsub b (.inr hb) with z | ⟨m, f, h2, h3, h4⟩
    · exact r1.hF i hh b (foc1.sub b z)
    · exact (hA m f h2 h3 b h4).2.2.1.2
theorem esim_mut {i : Nat} {p : FP} {T : String} {fa : FA} {op : D → List D → Option (D × D)} {r : V → List V → Hp → VK → Prop} {to : TE} {ta : TA} {t' : TE} (sp : PlSim K i to p) (po : ∀ env x, p env = some x → ∃ d, env[i]? = some (.own d)) (sa : ASim K W ε ks ta fa) (mo : MOp K r op ks)
    (ht : ∀ σ H Q, to σ H (fun x H1 => tyV K T x H1 ∧ ta σ H1 fun xs H2 => r x xs H2 Q) → t' σ H Q) : ESim K W true .own t' (fMut i p T fa op) := by
  intro Z F H env σ fp Q r0 hq
  unfold fMut at hq
  cases qp : p env with
  | none => rw [qp] at hq; exact hq.elim
  | some x =>
    obtain ⟨sub, g⟩ := x
    simp only [qp] at hq
    split at hq
    case isFalse => exact hq.elim
    rename_i hty
    -- the name is one's own
    have ho := po env _ qp
    obtain ⟨d0, h0⟩ := ho
    have s := r0.slot i
    unfold SlotR at s
    rw [h0] at s
    obtain ⟨v, hv, _⟩ := s
    refine ht σ H Q (sp Z F H env σ fp v sub g _ r0 ⟨d0, h0⟩ hv qp fun F1 H1 w fs gr foc => ?_)
    have r1 := r0.grow gr
    have ev0 : Ev ε F H env fp F1 H1 env fp := gr.ev
    -- it is no plain value
    have hw : ∃ a, w = .ref a := by
      cases sub with
      | node o s xs =>
        cases o with
        | true =>
          have z := foc.rep
          simp only [Rep] at z
          obtain ⟨a, _, _, _, e, _⟩ := z
          exact ⟨a, e⟩
        | false => cases s <;> cases hty
      | _ => cases hty
    obtain ⟨a, rfl⟩ := hw
    refine ⟨tyV_of hty foc.rep fun b hb => r1.nf i ⟨d0, h0⟩ b (foc.sub b hb), ?_⟩
    rw [lockE_own h0] at hq
    have gL : ∀ {e : Evn} {f : Fp} {F' H'}, Ev ε F1 H1 (env.set i (.bor (some i) d0)) fp F' H' e f → Ev ε F H (env.set i (.bor (some i) d0)) fp F' H' e f := fun e => (gr.ev.trans (ε1 := ε) e).mono (by cases ε <;> simp) (by cases ε <;> simp)
    refine sa Z F1 H1 _ σ fp _ (r1.lock h0) ?_
    cases qa : fa (env.set i (.bor (some i) d0)) with
    | stuck => rw [qa] at hq; exact hq.elim
    | exc c x e1 =>
      rw [qa] at hq
      simp only [endMut] at hq
      cases ql : lkD e1 i with
      | none => rw [ql] at hq; exact hq.elim
      | some d1 =>
        rw [ql] at hq
        have hl := lkD_get ql
        intro F2 H2 fp2 dx e2 r2 rx
        have d10 : d1 = d0 := by
          obtain ⟨z, _⟩ := e2.lks i ⟨d1, hl⟩
          rw [set_get h0, if_pos rfl, hl] at z
          cases z
          rfl
        subst d10
        have eu := (gL e2).unlk h0 hl
        refine hq F2 H2 fp2 dx (eu.mono (fun _ => rfl) fun z => by cases z) (r2.unlk hl fun b hb o u hz => ?_) rx
        obtain ⟨_, z⟩ := e2.lks i ⟨_, hl⟩
        rw [z] at hb
        exact r1.nf i ⟨_, h0⟩ b hb o u (e2.nofz b o u hz)
    | ok ds e1 =>
      rw [qa] at hq
      simp only [endMut] at hq
      cases ql : lkD e1 i with
      | none => rw [ql] at hq; exact hq.elim
      | some d1 =>
        rw [ql] at hq
        have hl := lkD_get ql
        cases qo : op sub ds with
        | none => rw [qo] at hq; exact hq.elim
        | some y =>
          obtain ⟨rd, sub'⟩ := y
          rw [qo] at hq
          intro F2 H2 fp2 vs frs e2 r2 rep ko
          have d10 : d1 = d0 := by
            obtain ⟨z, _⟩ := e2.lks i ⟨d1, hl⟩
            rw [set_get h0, if_pos rfl, hl] at z
            cases z
            rfl
          subst d10
          obtain ⟨_, fpe⟩ := e2.lks i ⟨_, hl⟩
          have eu := (gL e2).unlk h0 hl
          have hl2 : (e1.set i (.own d1))[i]? = some (.own d1) := by rw [set_get hl, if_pos rfl]
          have ru := r2.unlk hl fun b hb o u hz => by
            rw [fpe] at hb
            exact r1.nf i ⟨_, h0⟩ b hb o u (e2.nofz b o u hz)
          have oL : ∀ b, OwnA (env.set i (.bor (some i) d1)) fp b → OwnA env fp b := fun b ⟨j, hj, hb⟩ => ⟨j, ((lock_own h0).mp hj).1, hb⟩
          have nL : ∀ b ∈ fp i, ¬ OwnA (env.set i (.bor (some i) d1)) fp b := fun b hb ⟨j, hj, hm⟩ => by
            obtain ⟨h2, h3⟩ := (lock_own h0).mp hj
            exact r1.sep j i h3 (.inl h2) (.inl ⟨_, h0⟩) b hm hb
          have foc2 : Foc K F2 H2 v (fp2 i) (.ref a) fs sub g := by
            rw [fpe]
            exact foc.mono e2.sub fun b hb u hu => hu.same fun o ho => e2.keep b o ho fun _ => nL b hb
          refine mut_core (ks := ks) eu ru hl2 hv foc2 rep (fun j f h2 h3 b hb => ?_) (fun j f h2 h3 => KOks.get ko h2 h3) (by rw [ko.len]; exact rep.lens.2) mo qo fun u' fn u fr _ _ _ e3 r3 rp ko3 => ?_
          · have x : KOk .own H1 (env.set i (.bor (some i) d1)) fp F2 e1 fp2 f := KOks.get ko h2 h3
            have z := (r1.lock h0).apart e2 x
            refine ⟨?_, fun m hm => z.1 m ((unlk_hold hl).mp hm) b hb, z.2 b hb⟩
            rcases (x b hb).1 with y | y
            · exact .inl ((gr.ev (ε := true) (env := env) (fp := fp)).nd y)
            · exact .inr (oL b y)
          · rw [putE_set] at e3 r3 ko3
            exact hq F2 _ _ u fr e3 r3 rp ko3
end
end DL
namespace DL
open PySem PySem.Spec L2
section
variable {K : PySem.W.Frag} {F H : Hp}
theorem RepL.nil_inv {vs : List V} {fp : List Addr} (h : RepL K F H [] vs fp) : vs = [] ∧ fp = [] := h
theorem RepL.cons_inv {d : D} {ds : List D} {vs : List V} {fp : List Addr} (h : RepL K F H (d :: ds) vs fp) : ∃ (v : V) (ws : List V) (f1 f2 : List Addr), vs = v :: ws ∧ fp = f1 ++ f2 ∧ (∀ a ∈ f1, a ∉ f2) ∧ Rep K F H d v f1 ∧ RepL K F H ds ws f2 := by
  simp only [RepL] at h
  exact h
theorem RepL.app : ∀ {xs ys : List D} {vs ws : List V} {f1 f2 : List Addr}, RepL K F H xs vs f1 → RepL K F H ys ws f2 → (∀ a ∈ f1, a ∉ f2) → RepL K F H (xs ++ ys) (vs ++ ws) (f1 ++ f2)
  | [], ys, vs, ws, f1, f2, h1, h2, ap => by
    obtain ⟨rfl, rfl⟩ := h1.nil_inv
    exact h2
  | x :: xs, ys, vs, ws, f1, f2, h1, h2, ap => by
    obtain ⟨v, us, g1, g2, rfl, rfl, a1, a2, a3⟩ := h1.cons_inv
    have ih := RepL.app a3 h2 fun a ha => ap a (List.mem_append_right _ ha)
    rw [List.cons_append, List.cons_append, List.append_assoc]
    refine RepL.mk (fun a ha hm => ?_) a2 ih
    rcases List.mem_append.mp hm with hm | hm
    · exact a1 a ha hm
    · exact ap a (List.mem_append_left _ ha) hm
theorem RepL.one {d : D} {v : V} {f : List Addr} (h : Rep K F H d v f) : RepL K F H [d] [v] f := by
  have := RepL.mk (ds := []) (ws := []) (f2 := []) (fun a _ z => by cases z) h ⟨rfl, rfl⟩
  rwa [List.append_nil] at this
theorem RepL.setAt : ∀ {xs : List D} {vs : List V} {fp : List Addr} {n : Nat} {d : D} {v : V} {f : List Addr}, RepL K F H xs vs fp → n < xs.length → Rep K F H d v f → (∀ a ∈ f, a ∉ fp) → ∃ fq, RepL K F H (xs.set n d) (vs.set n v) fq ∧ ∀ a ∈ fq, a ∈ fp ∨ a ∈ f
  | [], vs, fp, n, d, v, f, h, e, hd, ap => by simp at e
  | x :: xs, vs, fp, 0, d, v, f, h, e, hd, ap => by
    obtain ⟨w, us, g1, g2, rfl, rfl, a1, a2, a3⟩ := h.cons_inv
    exact ⟨f ++ g2, RepL.mk (fun a ha hm => ap a ha (List.mem_append_right _ hm)) hd a3, fun a ha => (List.mem_append.mp ha).symm.imp (List.mem_append_right _) id⟩
  | x :: xs, vs, fp, n + 1, d, v, f, h, e, hd, ap => by
    obtain ⟨w, us, g1, g2, rfl, rfl, a1, a2, a3⟩ := h.cons_inv
    obtain ⟨fq, q1, q2⟩ := RepL.setAt (n := n) a3 (by simpa using e) hd fun a ha hm => ap a ha (List.mem_append_right _ hm)
    refine ⟨g1 ++ fq, RepL.mk (fun a ha hm => ?_) a2 q1, fun a ha => ?_⟩
    · rcases q2 a hm with z | z
      · exact a1 a ha z
      · exact ap a z (List.mem_append_left _ ha)
    · rcases List.mem_append.mp ha with ha | ha
      · exact .inl (List.mem_append_left _ ha)
      · exact (q2 a ha).imp (List.mem_append_right _) id
theorem RepL.rev : ∀ {xs : List D} {vs : List V} {fp : List Addr}, RepL K F H xs vs fp → ∃ fq, RepL K F H xs.reverse vs.reverse fq ∧ ∀ a ∈ fq, a ∈ fp
  | [], vs, fp, h => by
    obtain ⟨rfl, rfl⟩ := h.nil_inv
    exact ⟨[], ⟨rfl, rfl⟩, fun a h => h⟩
  | x :: xs, vs, fp, h => by
    obtain ⟨v, us, g1, g2, rfl, rfl, a1, a2, a3⟩ := h.cons_inv
    obtain ⟨fq, q1, q2⟩ := RepL.rev a3
    rw [List.reverse_cons, List.reverse_cons]
    exact ⟨fq ++ g1, q1.app (.one a2) fun a ha hm => a1 a hm (q2 a ha), fun a ha => (List.mem_append.mp ha).elim (fun z => List.mem_append_right _ (q2 a z)) (List.mem_append_left _)⟩
theorem Rep.own_node {s : Sh} {xs : List D} {a : Addr} {fs : List Addr} (h : Rep K F H (.node true s xs) (.ref a) fs) (nf : ∀ b ∈ fs, NF H b) : ∃ (u : HO) (vs : List V) (fq : List Addr), fs = a :: fq ∧ H a = some u ∧ IsN K s vs u ∧ a ∉ fq ∧ RepL K F H xs vs fq := by
  simp only [Rep] at h
  obtain ⟨a', u, vs, fq, ea, rfl, h1, h2, h3, h4, h5⟩ := h
  cases ea
  exact ⟨u, vs, fq, rfl, h1.nf (nf a (List.mem_cons_self ..)), h2, h3, h5⟩
theorem Rep.at_upd {d : D} {v : V} {f : List Addr} {a : Addr} {u : HO} (h : Rep K F H d v f) (n : a ∉ f) : Rep K F (upd H a u) d v f :=
  Rep.mono (fun _ _ h => h) d v f (fun b hb w hw => hw.same fun o ho => by rw [upd_ne (fun z => n (by rw [← z]; exact hb))]; exact ho) h
theorem RepL.at_upd {ds : List D} {vs : List V} {f : List Addr} {a : Addr} {u : HO} (h : RepL K F H ds vs f) (n : a ∉ f) : RepL K F (upd H a u) ds vs f :=
  RepL.mono (fun _ _ h => h) ds vs f (fun b hb w hw => hw.same fun o ho => by rw [upd_ne (fun z => n (by rw [← z]; exact hb))]; exact ho) h
theorem Rep.mk_own {s : Sh} {xs : List D} {a : Addr} {u : HO} {vs : List V} {fq : List Addr} (h : RepL K F H xs vs fq) (n : a ∉ fq) (i : IsN K s vs u) (ht : s ≠ .tup) : Rep K F (upd H a u) (.node true s xs) (.ref a) (a :: fq) := by
  rw [Rep]
  exact ⟨a, u, vs, fq, rfl, rfl, .inl upd_same, i, n, fun z => absurd z ht, h.at_upd n⟩
def opAppend : D → List D → Option (D × D)
  | .node true .lst xs, [d] => if xs.length < sizeLine then some (.non, .node true .lst (xs ++ [d])) else none
  | _, _ => none
theorem prot_f {k : Kd} {ks : List Kd} {j : Nat} {frs : List (List Addr)} {f : List Addr} {P : Addr → Prop} (hk : k.prot = true) (e : ks[j]? = some k) (ef : frs[j]? = some f) (h1 : ∀ (j : Nat) (f : List Addr), ks[j]? = some .own → frs[j]? = some f → ∀ b ∈ f, P b) (h2 : ∀ (j : Nat) (f : List Addr), ks[j]? = some .frz → frs[j]? = some f → f = []) : ∀ b ∈ f, P b ∧ ks[j]? = some .own := by
  cases k with
  | own => exact fun b hb => ⟨h1 j f e ef b hb, e⟩
  | frz => rw [h2 j f e ef]; exact fun b hb => by cases hb
  | bor _ => cases hk
theorem mop_append {k : Kd} (hk : k.prot = true) : MOp K rAppend opAppend [k] := by
  refine ⟨fun F H a fs sub ws frs ds rd sub' Q hs rp nf rep ap fz hl e q => ?_⟩
  unfold opAppend at e
  split at e
  · split at e
    · cases e
      rename_i xs d hlen
      obtain ⟨v, vs0, f, fs0, rfl, rfl, r1, r2⟩ := rep.inv
      obtain ⟨rfl, rfl⟩ := r2.inv0
      obtain ⟨u, vs, fq, rfl, hu, hn, ha, rl⟩ := rp.own_node fun b hb => (nf b hb).1
      have hn' : u = .lst vs := hn
      subst hn'
      have hf := prot_f (P := fun b => b ∉ a :: fq) (j := 0) (f := f) hk rfl rfl ap fz
      have hd : ∀ b ∈ fq, b ∉ f := fun b hb hm => (hf b hm).1 (List.mem_cons_of_mem _ hb)
      have haf : a ∉ fq ++ f := fun z => by
        rcases List.mem_append.mp z with z | z
        · exact ha z
        · exact (hf a z).1 (List.mem_cons_self ..)
      refine ⟨a, vs, v, rfl, rfl, hu, by rw [rl.len]; exact hlen, q (.lst (vs ++ [v])) .non [] (a :: (fq ++ f)) rfl (Rep.mk_own (rl.app (.one r1) hd) haf rfl (by simp)) (.plain rfl) (fun b hb => by cases hb) (fun b hb => ?_) (List.mem_cons_self ..) rfl⟩
      rcases hb with hb | hb
      · rcases List.mem_cons.mp hb with rfl | hb
        · exact .inl (List.mem_cons_self ..)
        · rcases List.mem_append.mp hb with hb | hb
          · exact .inl (List.mem_cons_of_mem _ hb)
          · exact .inr ⟨0, f, (hf b hb).2, rfl, hb⟩
      · cases hb
    · cases e
  · cases e
end
end DL
namespace DL
open PySem PySem.Spec L2
section
variable {K : PySem.W.Frag} {F H : Hp}
def opRev : D → List D → Option (D × D)
  | .node true .lst xs, [] => some (.non, .node true .lst xs.reverse)
  | _, _ => none
theorem mop_rev : MOp K rReverse opRev [] := by
  refine ⟨fun F H a fs sub ws frs ds rd sub' Q hs rp nf rep ap fz hl e q => ?_⟩
  unfold opRev at e
  split at e
  · cases e
    obtain ⟨rfl, rfl⟩ := rep.inv0
    obtain ⟨u, vs, fq, rfl, hu, hn, ha, rl⟩ := rp.own_node fun b hb => (nf b hb).1
    have hn' : u = .lst vs := hn
    subst hn'
    obtain ⟨fr, g1, g2⟩ := rl.rev
    refine ⟨a, vs, rfl, rfl, hu, q (.lst vs.reverse) .non [] (a :: fr) rfl (Rep.mk_own g1 (fun z => ha (g2 a z)) rfl (by simp)) (.plain rfl) (fun b hb => by cases hb) (fun b hb => .inl ?_) (List.mem_cons_self ..) rfl⟩
    rcases hb with hb | hb
    · rcases List.mem_cons.mp hb with rfl | hb
      · exact List.mem_cons_self ..
      · exact List.mem_cons_of_mem _ (g2 b hb)
    · cases hb
  · cases e
def putFD : List Str → List D → Str → D → List Str × List D
  | [], _, f, d => ([f], [d])
  | g :: fs, [], f, d => (g :: fs, [])
  | g :: fs, x :: xs, f, d => if g = f then (g :: fs, d :: xs) else ((g :: (putFD fs xs f d).1), x :: (putFD fs xs f d).2)
def opSetF (cl f : Str) : D → List D → Option (D × D)
  | .node true (.ins c fs) xs, [d] => if c = cl ∧ fs.length < 1000 then some (.non, .node true (.ins c (putFD fs xs f d).1) (putFD fs xs f d).2) else none
  | _, _ => none
end
end DL
namespace DL
open PySem PySem.Spec L2
section
variable {κ : Type} [DecidableEq κ]
def putKD (ks : List κ) (xs : List D) (k : κ) (d : D) : List κ × List D := match posK ks k with
  | some n => (ks, xs.set n d)
  | none => (ks ++ [k], xs ++ [d])
theorem posK_none {k : κ} : ∀ {ks : List κ}, posK ks k = none → k ∉ ks
  | [], _ => by simp
  | g :: ks, h => by
    unfold posK at h
    by_cases z : g = k
    · rw [if_pos z] at h; cases h
    · rw [if_neg z, Option.map_eq_none_iff] at h
      have := posK_none h
      simp [Ne.symm z, this]
theorem posK_some {k : κ} : ∀ {ks : List κ} {n : Nat}, posK ks k = some n → ks[n]? = some k
  | [], _, h => by cases h
  | g :: ks, n, h => by
    unfold posK at h
    by_cases z : g = k
    · rw [if_pos z] at h; cases h; simp [z]
    · rw [if_neg z, Option.map_eq_some_iff] at h
      obtain ⟨m, h1, rfl⟩ := h
      simpa using posK_some h1
theorem putK_none {k : κ} {ks : List κ} {vs : List V} (v : V) (h : posK ks k = none) (hl : ks.length = vs.length) : putK (ks.zip vs) k v = (ks ++ [k]).zip (vs ++ [v]) := by
  rw [putK_new v, List.zip_append hl]
  · rfl
  · rw [look_valV]
    have : ∀ {ks : List κ} {vs : List V}, k ∉ ks → look ks vs k = none := by
      intro ks
      induction ks with
      | nil => intro vs _; rfl
      | cons g ks ih =>
        intro vs hk
        cases vs with
        | nil => rfl
        | cons w vs =>
          simp only [List.mem_cons, not_or] at hk
          unfold look
          rw [if_neg (Ne.symm hk.1)]
          exact ih hk.2
    exact this (posK_none h)
theorem putK_some {k : κ} {v : V} : ∀ {ks : List κ} {vs : List V} {n : Nat}, posK ks k = some n → ks.Nodup → ks.length = vs.length → putK (ks.zip vs) k v = ks.zip (vs.set n v) := by
  intro ks vs n h nd hl
  have hany : ((ks.zip vs).any fun kv => decide (kv.1 = k)) = true := by
    have h1 := posK_some h
    have hn : n < ks.length := (List.getElem?_eq_some_iff.mp h1).1
    rw [List.any_eq_true]
    refine ⟨(k, vs[n]'(by omega)), ?_, by simp⟩
    refine List.mem_of_getElem? (i := n) ?_
    rw [List.getElem?_zip_eq_some]
    exact ⟨h1, List.getElem?_eq_getElem _⟩
  unfold putK
  rw [if_pos hany]
  clear hany
  have noK : ∀ {ks : List κ} {vs : List V}, k ∉ ks → (ks.zip vs).map (fun kv => if kv.1 = k then (kv.1, v) else kv) = ks.zip vs := by
    intro ks
    induction ks with
    | nil => intro vs _; rfl
    | cons g ks ih =>
      intro vs hk
      cases vs with
      | nil => rfl
      | cons w vs =>
        simp only [List.mem_cons, not_or] at hk
        rw [List.zip_cons_cons, List.map_cons, ih hk.2, if_neg (Ne.symm hk.1)]
  induction ks generalizing vs n with
  | nil => cases h
  | cons g ks ih =>
    cases vs with
    | nil => simp at hl
    | cons w vs =>
      rw [List.nodup_cons] at nd
      unfold posK at h
      rw [List.zip_cons_cons, List.map_cons]
      by_cases z : g = k
      · rw [if_pos z] at h
        cases h
        rw [if_pos z, noK (by rw [← z]; exact nd.1)]
        rfl
      · rw [if_neg z, Option.map_eq_some_iff] at h
        obtain ⟨m, h1, rfl⟩ := h
        rw [if_neg z, ih h1 nd.2 (by simpa using hl)]
        rfl
theorem nodup_snoc {k : κ} {ks : List κ} (nd : ks.Nodup) (h : k ∉ ks) : (ks ++ [k]).Nodup := by
  rw [List.nodup_append]
  exact ⟨nd, by simp, fun a ha b hb z => h (by rw [List.mem_singleton] at hb; rw [← hb, ← z]; exact ha)⟩
end
section
variable {K : PySem.W.Frag} {F H : Hp}
theorem putKD_rep {κ : Type} [DecidableEq κ] {d : D} {v : V} {f' : List Addr} (hd : Rep K F H d v f') {ks : List κ} {xs : List D} {vs : List V} {fq : List Addr} {k : κ} (h : RepL K F H xs vs fq) (hl : ks.length = vs.length) (nd : ks.Nodup) (ap : ∀ a ∈ f', a ∉ fq) :
    ∃ ws fr, putK (ks.zip vs) k v = (putKD ks xs k d).1.zip ws ∧ RepL K F H (putKD ks xs k d).2 ws fr ∧ ((putKD ks xs k d).1.length = ws.length ∧ (putKD ks xs k d).1.Nodup) ∧ ∀ a ∈ fr, a ∈ fq ∨ a ∈ f' := by
  unfold putKD
  cases q : posK ks k with
  | none =>
    refine ⟨vs ++ [v], fq ++ f', putK_none v q hl, h.app (.one hd) fun a ha hm => ap a hm ha, ⟨by simp [hl], nodup_snoc nd (posK_none q)⟩, fun a ha => List.mem_append.mp ha⟩
  | some n =>
    have hn : n < xs.length := by
      have := (List.getElem?_eq_some_iff.mp (posK_some q)).1
      rw [← h.len]
      omega
    obtain ⟨fr, e1, e2⟩ := h.setAt hn hd ap
    exact ⟨vs.set n v, fr, putK_some q nd hl, e1, ⟨by simpa using hl, nd⟩, e2⟩
def opSetI : D → List D → Option (D × D)
  | .node true .lst xs, [d, .int i] => (ixN xs.length i).map fun n => (.non, .node true .lst (xs.set n d))
  | .node true (.dic ks) xs, [d, k] => if ks.length < sizeLine then (keyD k).map fun k => (.non, .node true (.dic (putKD ks xs k d).1) (putKD ks xs k d).2) else none
  | .node true (.dit ks) xs, [d, .node _ .tup ys] => if ks.length < sizeLine then (keysD ys).map fun k => (.non, .node true (.dit (putKD ks xs k d).1) (putKD ks xs k d).2) else none
  | _, _ => none
def rSetI : V → List V → Hp → VK → Prop := fun x vs H Q => ∃ v y, vs = [v, y] ∧ (rSetL x y v H (fun H' => Q .non H') ∨ rSetD x y v H (fun H' => Q .non H'))
theorem mop_setI {k k2 : Kd} (hk : k.prot = true) : MOp K rSetI opSetI [k, k2] := by
  refine ⟨fun F H a fs sub ws frs ds rd sub' Q hs rp nf rep ap fz hl e q => ?_⟩
  have two : ∀ {d c : D}, ds = [d, c] → ∃ v y f0 f1, ws = [v, y] ∧ frs = [f0, f1] ∧ Rep K F H d v f0 ∧ Rep K F H c y f1 := by
    intro d c e
    subst e
    obtain ⟨v, vs0, f0, fs1, rfl, rfl, r1, r2⟩ := rep.inv
    obtain ⟨y, vs1, f1, fs2, rfl, rfl, r3, r4⟩ := r2.inv
    obtain ⟨rfl, rfl⟩ := r4.inv0
    exact ⟨v, y, f0, f1, rfl, rfl, r1, r3⟩
  unfold opSetI at e
  split at e
  · rename_i xs d i
    rw [Option.map_eq_some_iff] at e
    obtain ⟨n, e1, e2⟩ := e
    cases e2
    obtain ⟨v, y, f0, f1, rfl, rfl, r1, r2⟩ := two rfl
    obtain rfl : y = .int i := r2.1
    obtain ⟨u, vs, fq, rfl, hu, hn', ha, rl⟩ := rp.own_node fun b hb => (nf b hb).1
    have hn2 : u = .lst vs := hn'
    subst hn2
    have hf := prot_f (P := fun b => b ∉ a :: fq) (j := 0) (f := f0) hk rfl rfl ap fz
    obtain ⟨fr, e3, e4⟩ := rl.setAt (ixN_seq e1).2.1 r1 fun b hb hm => (hf b hb).1 (List.mem_cons_of_mem _ hm)
    have haf : a ∉ fr := fun z => by
      rcases e4 a z with z | z
      · exact ha z
      · exact (hf a z).1 (List.mem_cons_self ..)
    refine ⟨v, .int i, rfl, .inl ⟨a, vs, i, n, rfl, rfl, hu, by rw [rl.len]; exact e1, q _ .non [] (a :: fr) rfl (Rep.mk_own e3 haf rfl (by simp)) (.plain rfl) (fun b hb => by cases hb) (fun b hb => ?_) (List.mem_cons_self ..) rfl⟩⟩
    rcases hb with hb | hb
    · rcases List.mem_cons.mp hb with rfl | hb
      · exact .inl (List.mem_cons_self ..)
      · rcases e4 b hb with z | z
        · exact .inl (List.mem_cons_of_mem _ z)
        · exact .inr ⟨0, f0, (hf b z).2, rfl, z⟩
    · cases hb
  · split at e
    · rename_i ks xs d c hlen
      rw [Option.map_eq_some_iff] at e
      obtain ⟨ky, e1, e2⟩ := e
      cases e2
      obtain ⟨v, y, f0, f1, rfl, rfl, r1, r2⟩ := two rfl
      obtain ⟨u, vs, fq, rfl, hu, hn', ha, rl⟩ := rp.own_node fun b hb => (nf b hb).1
      obtain ⟨⟨hl', nd⟩, rfl⟩ := hn'
      have hf := prot_f (P := fun b => b ∉ a :: fq) (j := 0) (f := f0) hk rfl rfl ap fz
      obtain ⟨us, fr, g1, g2, g3, g4⟩ := putKD_rep r1 (k := ky) rl hl' nd fun b hb hm => (hf b hb).1 (List.mem_cons_of_mem _ hm)
      have haf : a ∉ fr := fun z => by
        rcases g4 a z with z | z
        · exact ha z
        · exact (hf a z).1 (List.mem_cons_self ..)
      refine ⟨v, y, rfl, .inr ⟨a, _, rfl, .inl ⟨_, ky, hu, keyD_rep e1 r2, by rw [List.length_zip, hl', Nat.min_self, ← hl']; exact hlen, rfl⟩, ?_⟩⟩
      rw [g1]
      refine q _ .non [] (a :: fr) rfl (Rep.mk_own g2 haf ⟨g3, rfl⟩ (by simp)) (.plain rfl) (fun b hb => by cases hb) (fun b hb => ?_) (List.mem_cons_self ..) rfl
      rcases hb with hb | hb
      · rcases List.mem_cons.mp hb with rfl | hb
        · exact .inl (List.mem_cons_self ..)
        · rcases g4 b hb with z | z
          · exact .inl (List.mem_cons_of_mem _ z)
          · exact .inr ⟨0, f0, (hf b z).2, rfl, z⟩
      · cases hb
    · cases e
  · split at e
    · rename_i ks xs d o' ys hlen
      rw [Option.map_eq_some_iff] at e
      obtain ⟨ky, e1, e2⟩ := e
      cases e2
      obtain ⟨v, y, f0, f1, rfl, rfl, r1, r2⟩ := two rfl
      obtain ⟨u, vs, fq, rfl, hu, hn', ha, rl⟩ := rp.own_node fun b hb => (nf b hb).1
      obtain ⟨⟨hl', nd⟩, rfl⟩ := hn'
      obtain ⟨b, ws2, fq2, rfl, hb, rb, _⟩ := r2.tup hs
      have hf := prot_f (P := fun b => b ∉ a :: fq) (j := 0) (f := f0) hk rfl rfl ap fz
      obtain ⟨us, fr, g1, g2, g3, g4⟩ := putKD_rep r1 (k := ky) rl hl' nd fun b hb hm => (hf b hb).1 (List.mem_cons_of_mem _ hm)
      have haf : a ∉ fr := fun z => by
        rcases g4 a z with z | z
        · exact ha z
        · exact (hf a z).1 (List.mem_cons_self ..)
      refine ⟨v, .ref b, rfl, .inr ⟨a, _, rfl, .inr ⟨_, ky, b, hu, rfl, by rw [hb, keysD_rep e1 rb], by rw [List.length_zip, hl', Nat.min_self, ← hl']; exact hlen, rfl⟩, ?_⟩⟩
      rw [g1]
      refine q _ .non [] (a :: fr) rfl (Rep.mk_own g2 haf ⟨g3, rfl⟩ (by simp)) (.plain rfl) (fun b hb => by cases hb) (fun b hb => ?_) (List.mem_cons_self ..) rfl
      rcases hb with hb | hb
      · rcases List.mem_cons.mp hb with rfl | hb
        · exact .inl (List.mem_cons_self ..)
        · rcases g4 b hb with z | z
          · exact .inl (List.mem_cons_of_mem _ z)
          · exact .inr ⟨0, f0, (hf b z).2, rfl, z⟩
      · cases hb
    · cases e
  · cases e
end
end DL
namespace DL
open PySem PySem.Spec L2
section
variable {X : Cx} {o i : Expr} {to ti : TE} {f : Str} {pos : Pos}
theorem PSet.or {r r' : TSet} (h : PSet X r) (h' : PSet X r') : PSet X (fun o i v H Q => r o i v H Q ∨ r' o i v H Q) := by
  intro pins s σ H o i v ov iv u Q I ro ri rv h0
  rcases h0 with h0 | h0
  · exact h pins s σ H o i v ov iv u Q I ro ri rv h0
  · exact h' pins s σ H o i v ov iv u Q I ro ri rv h0
end
def gPl (i : Nat) (p : FP) (op : D → List D → Option (D × D)) (ks : FA) : Md → D → Evn → Option Evn := fun md d env => match md with
  | .own => (match p env, ks env with
    | some (sub, g), .ok as _ => (op sub (d :: as)).map fun x => putE i (.own (g x.2)) env
    | _, _ => none)
  | .bor _ => none
section
variable {K : PySem.W.Frag} {W : WX} {ε : Bool} {F H F1 H1 F2 H2 F' H' F0 H0 : Hp} {env env1 env2 env' env0 : Evn} {fp fp1 fp2 fp' fp0 : Fp} {Z : Zst} {σ : L2.St} {ms : List Nat}
theorem gpl_core {i : Nat} {d1 d sub sub' rd : D} {g : D → D} {v w : V} {a : Addr} {fs fr : List Addr} {as : List D} {ws : List V} {frs : List (List Addr)} {op : D → List D → Option (D × D)} {r : V → List V → Hp → VK → Prop} {ks : List Kd} {md : Md} {Q : L2.St → Hp → Prop}
    (gr : Grow F H F1 H1) (e0 : Ev true F0 H0 env0 fp0 F H env fp) (r0 : R K Z F H env σ fp) (h1 : env[i]? = some (.own d1)) (hv : σ[i]? = some (some v)) (foc1 : Foc K F1 H1 v (fp i) (.ref a) fs sub g)
    (rep0 : Rep K F H d w fr) (vm : VMo H0 env0 fp0 Z F H env fp fr md) (hmd : md = .own) (rep : RepA K F1 H1 as ws frs) (hZ : ∀ f ∈ frs, f = []) (hks : ks.length = as.length) (hnk : ∀ k ∈ ks, k ≠ Kd.own)
    (mo : MOp K r op (.own :: ks)) (hop : op sub (d :: as) = some (rd, sub'))
    (hq : ∀ H' fp', Ev true F0 H0 env0 fp0 F1 H' (putE i (.own (g sub')) env) fp' → R K Z F1 H' (putE i (.own (g sub')) env) σ fp' → SubA H env (putE i (.own (g sub')) env) fp fp' fr → md.keeps fr F H F1 H' env (putE i (.own (g sub')) env) fp fp' → Q σ H') : r (.ref a) (w :: ws) H1 (fun _ H' => Q σ H') := by
  have r1 := r0.grow gr
  have ow : isOwn env i := ⟨d1, h1⟩
  have hi : i < env.length := (List.getElem?_eq_some_iff.mp h1).1
  have own : ∀ b ∈ fr, (H0 b = none ∨ OwnA env0 fp0 b) ∧ (∀ j, hold env j → b ∉ fp j) ∧ (¬ Z.B b ∧ F b = none) ∧ NF H b := by
    subst hmd
    exact vm
  have hk0 : ∀ (j : Nat), (Kd.own :: ks)[j]? = some .own → j = 0 := fun j e => by
    cases j with
    | zero => rfl
    | succ j => exact absurd rfl (hnk _ (List.mem_of_getElem? (by simpa using e)))
  -- relative to the beginning of this target
  have rep1 : RepA K F1 H1 (d :: as) (w :: ws) (fr :: frs) := ⟨rep0.grow gr, rep⟩
  have zF : ∀ (j : Nat) (f : List Addr), (Kd.own :: ks)[j]? = some .frz → (fr :: frs)[j]? = some f → f = [] := fun j f e1 e2 => by
    cases j with
    | zero => simp at e1
    | succ j => exact hZ f (List.mem_of_getElem? (by simpa using e2))
  have hF1 : ∀ b ∈ fr, F1 b = none := fun b hb => by
    cases q : F1 b with
    | none => rfl
    | some u => exact absurd (gr.new b (own b hb).2.2.1.2 (by rw [q]; exact fun z => by cases z)) (Rep.dom d w fr rep0 b hb)
  have nf1 : ∀ b ∈ fr, NF H1 b := fun b hb o u ho => (own b hb).2.2.2 o u (gr.nofz b o u ho)
  refine mut_core (ks := Kd.own :: ks) (Z := Z) (σ := σ) (F0 := F0) (H0 := H0) (env0 := env0) (fp0 := fp0) ((e0.trans (ε2 := true) gr.ev).mono (fun _ => rfl) fun z => by cases z) r1 h1 hv foc1 rep1 (fun j f e1 e2 b hb => ?_) zF (by rw [List.length_cons, List.length_cons, hks]) mo hop fun u' fn u fr' hz hin hfn e2 r2 rp2 ko2 => ?_
  · have z := hk0 j e1
    subst z
    simp at e2
    subst e2
    exact ⟨(own b hb).1, (own b hb).2.1, ⟨(own b hb).2.2.1.1, hF1 b hb⟩, nf1 b hb⟩
  · have hh : hold env i := .inl ow
    have inF : ∀ b ∈ fn, b ∈ fp i ∨ b ∈ fr := fun b hb => by
      rcases hfn b hb with z | ⟨j, f, e1, e3, e4⟩
      · exact .inl z
      · have z := hk0 j e1
        subst z
        simp at e3
        subst e3
        exact .inr e4
    refine hq _ _ e2 r2 ⟨fun b ⟨j, hj, hb⟩ => ?_, fun b ⟨j, hj, hb⟩ => ?_⟩ ⟨fun b o ho hn hf => ?_, fun b hb => ?_, fun b o u ho => gr.nofz b o u (nofz_upd hz b o u ho), fun j hj => ?_, gr.sub, gr.new⟩
    · by_cases e : j = i
      · subst e
        rw [fset_same] at hb
        exact (inF b hb).imp (fun z => ⟨j, ow, z⟩) .inl
      · rw [fset_ne e] at hb
        exact .inl ⟨j, (isOwn_put e).mp hj, hb⟩
    · by_cases e : j = i
      · subst e
        obtain ⟨d', q⟩ := hj
        rw [putE_same hi] at q
        cases q
      · rw [fset_ne e] at hb
        exact ⟨j, (isLk_put e).mp hj, hb⟩
    · have ne : b ≠ a := fun z => hn ⟨i, ow, by rw [z]; exact hin⟩
      rw [upd_ne ne]
      exact gr.keep b o ho
    · by_cases e : b = a
      · rw [e, upd_same]; exact fun z => by cases z
      · rw [upd_ne e]; exact gr.dom hb
    · rw [hmd] at hj
      cases hj
end
section
variable {X : Cx} {W : WX} {ε : Bool} {ms : List Nat} {i : Nat} {o e ie : Expr} {es : List Expr} {p : FP} {fi fe : FE} {fa : FA} {f : Str} {pos cpos apos : Pos} {k : Kd}
theorem Foc.ref {K : PySem.W.Frag} {F H : Hp} {v w : V} {fp fs : List Addr} {s : Sh} {xs : List D} {g : D → D} (h : Foc K F H v fp w fs (.node true s xs) g) : ∃ a, w = .ref a := by
  have z := h.rep
  simp only [Rep] at z
  obtain ⟨a, _, _, _, e, _⟩ := z
  exact ⟨a, e⟩
theorem opSetI_node {sub : D} {ds : List D} {x : D × D} (h : opSetI sub ds = some x) : ∃ s xs, sub = .node true s xs := by
  unfold opSetI at h
  split at h
  · exact ⟨_, _, rfl⟩
  · exact ⟨_, _, rfl⟩
  · exact ⟨_, _, rfl⟩
  · cases h
theorem dg_sub (hu : X.A.units + 1 < cLine) (h : DPl X i o p) (hi : DE X W false .frz ie fi)
    (ha : ∀ v, assign (.Subscript o ie pos) X.env v = (do
      let ov ← holding [v] (eval o X.env)
      let iv ← holding [v, ov] (eval ie X.env)
      standAt pos
      holding [v, ov, iv] (setItem ov iv v)
      release [v, ov, iv] []) := by intro _; rfl) : DG X ms (.Subscript o ie pos) (gPl i p opSetI (aCons fi aNil)) := by
  obtain ⟨t, p1, s1⟩ := h.ex
  obtain ⟨t2, p2, s2⟩ := hi.ex
  refine ⟨_, pg_sub p1 p2 (PSet.or set_list (set_dict hu)) ha, ?_⟩
  refine fun Z F0 H0 env0 fp0 F H env σ fp w d fr md Q hm e0 r rep vm ⟨env', hg, hq⟩ => ?_
  unfold gPl at hg
  cases md with
  | bor _ => cases hg
  | own =>
    cases qp : p env with
    | none => simp only [qp] at hg; cases hg
    | some x =>
      obtain ⟨sub, g⟩ := x
      simp only [qp] at hg
      unfold aCons at hg
      cases qi : fi env with
      | exc _ _ _ => simp only [qi, Rs.bind_exc] at hg; cases hg
      | stuck => simp only [qi, Rs.bind_stuck] at hg; cases hg
      | ok kd e1 =>
        simp only [qi, aNil, Rs.bind_ok, Rs.map_ok, Option.map_eq_some_iff] at hg
        obtain ⟨⟨rd, sub'⟩, ho, rfl⟩ := hg
        obtain ⟨d1, h1⟩ := h.own env _ qp
        have s := r.slot i
        unfold SlotR at s
        rw [h1] at s
        obtain ⟨v, hv, _⟩ := s
        obtain ⟨s0, xs0, rfl⟩ := opSetI_node ho
        refine s1 Z F H env σ fp v _ g _ r ⟨d1, h1⟩ hv qp fun F1 H1 w1 fs gr foc => ?_
        obtain ⟨a, rfl⟩ := foc.ref
        have r1 := r.grow gr
        refine s2 Z F1 H1 env σ fp _ r1 ?_
        rw [qi]
        intro F2 H2 fp2 y fy ev r2 rp ko
        have g2 := ev.grow r2
        have e0' : fy = [] := ko
        subst e0'
        have foc2 := foc.mono g2.sub fun b hb u hu => hu.same fun o ho => g2.keep b o ho
        have key := gpl_core (ks := [.frz]) (md := .own) (r := rSetI) (gr.trans g2) e0 r h1 hv foc2 rep vm rfl (as := [kd]) (ws := [y]) (frs := [[]]) ⟨rp, trivial⟩ (fun _ z => by simpa using z) rfl (fun _ z => by simp at z; rw [z]; exact fun q => by cases q) (mop_setI rfl) ho fun H' fp' e2 r2 sa kp => hq σ F2 H' fp' (fun z => by cases z) e2 r2 sa kp
        obtain ⟨v', y', ev', h2⟩ := key
        cases ev'
        exact h2
section
theorem de_m0 {T name id : String} {r : V → List V → Hp → VK → Prop} {op : D → List D → Option (D × D)} (pa : PlainAttrs T) (slot : Slot T name id) (hty : typeOf (.builtin id) = pure (.type "method_descriptor")) (hm : MtR X id r) (mo : MOp X.K r op []) (h : DPl X i o p)
    (hbase : attributeBase o name X.env (eval o X.env) = eval o X.env) (hline : (apos.endLine == cpos.line) = true) : DE X W true .own (.Call (.Attribute o name apos) [] [] cpos) (fMut i p T aNil op) := by
  obtain ⟨t, p1, s1⟩ := h.ex
  exact ⟨_, pe_bm0 pa slot hty hm p1 hbase hline, esim_mut (ε := false) s1 h.own asim_nil mo fun σ H Q h => h⟩
theorem de_m1 {T name id : String} {r : V → List V → Hp → VK → Prop} {op : D → List D → Option (D × D)} {ks : List Kd} (pa : PlainAttrs T) (slot : Slot T name id) (hty : typeOf (.builtin id) = pure (.type "method_descriptor")) (hm : MtR X id r) (mo : MOp X.K r op ks) (h : DPl X i o p)
    (ha : DA X W ε ks (e :: es) fa) (hbase : attributeBase o name X.env (eval o X.env) = eval o X.env) (hline : (apos.endLine == cpos.line) = true)
    (hfew : ((backTo cpos (starEach (e :: es) X.env)).all (fun x => !x.1) && (backToKw cpos (keywordEach [] X.env)).all (fun x => x.1.isSome)
      && decide ((e :: es).length + ([] : List Keyword).length + (if ([] : List Keyword).isEmpty then 0 else 1) < 30)) = true)
    (hs : starEach (e :: es) X.env = (false, eval e X.env) :: starEach es X.env) (hplain : (backTo cpos (starEach es X.env)).any (·.1) = false) : DE X W true .own (.Call (.Attribute o name apos) (e :: es) [] cpos) (fMut i p T fa op) := by
  obtain ⟨t, p1, s1⟩ := h.ex
  obtain ⟨ta, p2, s2⟩ := ha.ex
  exact ⟨_, pe_bm pa slot hty hm p1 p2 hbase hfew hline hs hplain, esim_mut s1 h.own s2 mo fun σ H Q h => h⟩
end
end
section
variable {X : Cx} {W : WX} {ε : Bool} {i : Nat} {o e : Expr} {p : FP} {fe : FE} {fa : FA} {cpos apos : Pos} {k : Kd}
theorem de_reverse (h : DPl X i o p) (hbase : attributeBase o "reverse" X.env (eval o X.env) = eval o X.env := by rfl) (hline : (apos.endLine == cpos.line) = true := by rfl) : DE X W true .own (.Call (.Attribute o "reverse" apos) [] [] cpos) (fMut i p "list" aNil opRev) :=
  de_m0 PySem.F.plainAttrs_list PySem.F.slot_list_reverse PySem.F.type_list_reverse mt_reverse mop_rev h hbase hline
theorem de_append (h : DPl X i o p) (ha : DE X W ε k e fe) (hk : k.prot = true := by rfl) (hbase : attributeBase o "append" X.env (eval o X.env) = eval o X.env := by rfl) (hline : (apos.endLine == cpos.line) = true := by rfl)
    (hfew : ((backTo cpos (starEach [e] X.env)).all (fun x => !x.1) && (backToKw cpos (keywordEach [] X.env)).all (fun x => x.1.isSome)
      && decide ([e].length + ([] : List Keyword).length + (if ([] : List Keyword).isEmpty then 0 else 1) < 30)) = true := by rfl)
    (hs : starEach [e] X.env = (false, eval e X.env) :: starEach [] X.env := by rfl) (hplain : (backTo cpos (starEach [] X.env)).any (·.1) = false := by rfl) : DE X W true .own (.Call (.Attribute o "append" apos) [e] [] cpos) (fMut i p "list" (aCons fe aNil) opAppend) :=
  de_m1 PySem.F.plainAttrs_list PySem.F.slot_list_append PySem.F.type_list_append mt_append (mop_append hk) h (da_cons ha da_nil (fun h => by cases h) hs) hbase hline hfew hs hplain
end
end DL
namespace DL
open PySem PySem.Spec L2
def loopD (g : D → Evn → Option Evn) (fb : FS) : List D → Evn → So
  | [], env => .nxt env
  | x :: xs, env => match g x env with
    | none => .stuck
    | some e1 => match fb e1 with
      | .nxt e2 => loopD g fb xs e2
      | .cnt e2 => loopD g fb xs e2
      | .brk e2 => .nxt e2
      | .ret d e2 => .ret d e2
      | .exc c x e2 => .exc c x e2
      | .stuck => .stuck
def lkD' (env : Evn) (i : Nat) : Bool := (lkD env i).isSome
def rootB (md : Md) (env : Evn) : Bool := match md with
  | .bor (some m) => lkD' env m
  | _ => true
def gChk (md : Md) (g : Md → D → Evn → Option Evn) : D → Evn → Option Evn := fun d env => if rootB md env = true then g md d env else none
section
variable {K : PySem.W.Frag} {W : WX} {ε : Bool} {F H F1 H1 F2 H2 F' H' F0 H0 : Hp} {env env1 env2 env' env0 : Evn} {fp fp1 fp2 fp' fp0 : Fp} {Z : Zst} {σ σ1 : L2.St} {ms : List Nat} {D_ : Ends}
structure IInv (K : PySem.W.Frag) (Z : Zst) (F1 H1 : Hp) (env1 : Evn) (fp1 : Fp) (J : It) (items : List D) (md : Md) (P : Nat → Hp → Hp → Evn → Fp → Prop) : Prop where
  go : ∀ F H env fp σ i d, P i F H env fp → R K Z F H env σ fp → rootB md env = true → items[i]? = some d → J.go i H ∧ ∀ x H', J.yld i H x H' → ∃ F' fr, Grow F H F' H' ∧ Rep K F' H' d x fr ∧ VMo H1 env1 fp1 Z F' H' env fp fr md ∧
    ∀ F2 H2 env2 fp2, Ev true F1 H1 env1 fp1 F2 H2 env2 fp2 → SubA H' env env2 fp fp2 fr → md.keeps fr F' H' F2 H2 env env2 fp fp2 → P (i + 1) F2 H2 env2 fp2
  stop : ∀ F H env fp σ i, P i F H env fp → R K Z F H env σ fp → items.length ≤ i → J.stop i H
  ev : ∀ F H env fp σ i F' H' env' fp', P i F H env fp → R K Z F H env σ fp → Ev true F H env fp F' H' env' fp' → P i F' H' env' fp'
structure IOk (K : PySem.W.Frag) (Z : Zst) (F1 H1 : Hp) (env1 : Evn) (fp1 : Fp) (J : It) (items : List D) (md : Md) : Prop where
  go : ∀ F H env fp σ i d, Ev true F1 H1 env1 fp1 F H env fp → R K Z F H env σ fp → rootB md env = true → items[i]? = some d → J.go i H ∧ ∀ x H', J.yld i H x H' → ∃ F' fr, Grow F H F' H' ∧ Rep K F' H' d x fr ∧ ∀ H0 env0 fp0, VMo H0 env0 fp0 Z F' H' env fp fr md
  stop : ∀ F H env fp σ i, Ev true F1 H1 env1 fp1 F H env fp → R K Z F H env σ fp → items.length ≤ i → J.stop i H
theorem IOk.inv {J : It} {items : List D} {md : Md} (h : IOk K Z F1 H1 env1 fp1 J items md) : IInv K Z F1 H1 env1 fp1 J items md (fun _ F H env fp => Ev true F1 H1 env1 fp1 F H env fp) where
  go := fun F H env fp σ i d ev r hb hi => by
    obtain ⟨h1, h2⟩ := h.go F H env fp σ i d ev r hb hi
    refine ⟨h1, fun x H' hy => ?_⟩
    obtain ⟨F', fr, gr, rp, vm⟩ := h2 x H' hy
    exact ⟨F', fr, gr, rp, vm H1 env1 fp1, fun F2 H2 env2 fp2 e _ _ => e⟩
  stop := h.stop
  ev := fun F H env fp σ i F' H' env' fp' p r e => (p.trans e).mono (fun _ => rfl) fun z => by cases z
theorem SPost.nx {D1 D2 : Ends} {o : So} (h : SPost K W Z F H env fp D1 o) (hn : ∀ e, o = .nxt e → SPost K W Z F H env fp D2 (.nxt e)) (hr : ∀ v H, D1.rt v H → D2.rt v H) (hb : ∀ e, o = .brk e → SPost K W Z F H env fp D2 (.brk e)) (hc : ∀ e, o = .cnt e → SPost K W Z F H env fp D2 (.cnt e)) : SPost K W Z F H env fp D2 o := by
  cases o with
  | nxt e => exact hn e rfl
  | brk e => exact hb e rfl
  | cnt e => exact hc e rfl
  | ret d e => exact fun F' H' fp' σ' v fr e1 r1 rp ko => hr _ _ (h F' H' fp' σ' v fr e1 r1 rp ko)
  | exc c x e => exact h
  | stuck => exact h
theorem loop_simP {J : It} {g : TG} {tb : TS} {gD : Md → D → Evn → Option Evn} {fb : FS} {items : List D} {md : Md} {P : Nat → Hp → Hp → Evn → Fp → Prop} {F9 H9 : Hp} {env9 : Evn} {fp9 : Fp} (io : IInv K Z F1 H1 env1 fp1 J items md P) {b : Bool} (hg : GSim K b ms g gD) (hb : SSim K W ms tb fb) (hm : ∀ p ∈ Z.pins, p.1 ∈ ms)
    (r1 : R K Z F9 H9 env9 σ1 fp9) (e9 : Ev true F1 H1 env1 fp1 F9 H9 env9 fp9) (p1 : P 0 F9 H9 env9 fp9)
    (h : SPost K W Z F1 H1 env1 fp1 D_ (loopD (gChk md gD) fb items env9)) : ∃ W : Nat → Nat → L2.St → Hp → Prop, (∃ m, W 0 m σ1 H9) ∧ ∀ i m σ H, W i m σ H →
      (J.stop i H ∧ D_.nx σ H) ∨ (J.go i H ∧ ∃ N : L2.St → Hp → Prop, (∀ σ' H', N σ' H' → ∃ m', m' < m ∧ W (i + 1) m' σ' H') ∧ ∀ x H', J.yld i H x H' → g x σ H' fun σ2 H2 => tb { D_ with nx := N, ct := N, bk := D_.nx } σ2 H2) := by
  refine ⟨fun i m σ H => m = items.length - i ∧ ∃ F env fp, R K Z F H env σ fp ∧ Ev true F1 H1 env1 fp1 F H env fp ∧ P i F H env fp ∧ SPost K W Z F1 H1 env1 fp1 D_ (loopD (gChk md gD) fb (items.drop i) env), ⟨items.length, rfl, F9, env9, fp9, r1, e9, p1, h⟩, ?_⟩
  rintro i m σ H ⟨rfl, F, env, fp, r, ev, pi, hp⟩
  by_cases hi : i < items.length
  · have hd : items[i]? = some items[i] := List.getElem?_eq_getElem hi
    have hp' := hp
    rw [List.drop_eq_getElem_cons hi] at hp'
    unfold loopD gChk at hp'
    by_cases hrb : rootB md env = true
    case neg => rw [if_neg hrb] at hp'; exact hp'.elim
    rw [if_pos hrb] at hp'
    obtain ⟨hgo, hy⟩ := io.go F H env fp σ i _ pi r hrb hd
    refine .inr ⟨hgo, fun σ' H' => ∃ F' env' fp', R K Z F' H' env' σ' fp' ∧ Ev true F1 H1 env1 fp1 F' H' env' fp' ∧ P (i + 1) F' H' env' fp' ∧ SPost K W Z F1 H1 env1 fp1 D_ (loopD (gChk md gD) fb (items.drop (i + 1)) env'), fun σ' H' ⟨F', env', fp', a, b, p, c⟩ => ⟨items.length - (i + 1), by omega, rfl, F', env', fp', a, b, p, c⟩, fun x H' hyx => ?_⟩
    obtain ⟨F', fr, gr, rp, vm, pn⟩ := hy x H' hyx
    replace hp := hp'
    cases q : gD md items[i] env with
    | none => rw [q] at hp; exact hp.elim
    | some e1 =>
      rw [q] at hp
      have ev' : Ev true F1 H1 env1 fp1 F' H' env fp := (ev.trans (ε2 := true) gr.ev).mono (fun _ => rfl) fun z => by cases z
      refine hg Z F1 H1 env1 fp1 F' H' env σ fp x _ fr md _ hm ev' (r.grow gr) rp vm ⟨e1, q, fun σ2 F2 H2 fp2 _ ev2 r2 sa kp => ?_⟩
      have p2 := pn F2 H2 e1 fp2 ev2 sa kp
      refine hb Z F2 H2 e1 σ2 fp2 _ hm r2 ?_
      simp only at hp
      cases qb : fb e1 with
      | nxt e2 =>
        rw [qb] at hp
        exact fun F3 H3 fp3 σ3 ev3 r3 => ⟨F3, e2, fp3, r3, (ev2.trans ev3).mono (fun _ => rfl) (fun z => by cases z), io.ev _ _ _ _ σ2 _ _ _ _ _ p2 r2 ev3, hp⟩
      | cnt e2 =>
        rw [qb] at hp
        exact fun F3 H3 fp3 σ3 ev3 r3 => ⟨F3, e2, fp3, r3, (ev2.trans ev3).mono (fun _ => rfl) (fun z => by cases z), io.ev _ _ _ _ σ2 _ _ _ _ _ p2 r2 ev3, hp⟩
      | brk e2 =>
        rw [qb] at hp
        exact fun F3 H3 fp3 σ3 ev3 r3 => hp F3 H3 fp3 σ3 ((ev2.trans ev3).mono (fun _ => rfl) (fun z => by cases z)) r3
      | ret d e2 =>
        rw [qb] at hp
        exact fun F3 H3 fp3 σ3 v fr ev3 r3 rp3 ko3 => hp F3 H3 fp3 σ3 v fr ((ev2.trans ev3).mono (fun _ => rfl) (fun z => by cases z)) r3 rp3 (ko3.rel ev2)
      | exc c x e2 =>
        rw [qb] at hp
        exact fun F3 H3 fp3 σ3 dx ev3 r3 rp3 => hp F3 H3 fp3 σ3 dx ((ev2.trans ev3).mono (fun _ => rfl) (fun z => by cases z)) r3 rp3
      | stuck => rw [qb] at hp; exact hp.elim
  · refine .inl ⟨io.stop F H env fp σ i pi r (by omega), ?_⟩
    rw [List.drop_eq_nil_of_le (by omega)] at hp
    exact hp F H fp σ ev r
theorem loop_sim {J : It} {g : TG} {tb : TS} {gD : Md → D → Evn → Option Evn} {fb : FS} {items : List D} {md : Md} (io : IOk K Z F1 H1 env1 fp1 J items md) {b : Bool} (hg : GSim K b ms g gD) (hb : SSim K W ms tb fb) (hm : ∀ p ∈ Z.pins, p.1 ∈ ms) (r1 : R K Z F1 H1 env1 σ1 fp1)
    (h : SPost K W Z F1 H1 env1 fp1 D_ (loopD (gChk md gD) fb items env1)) : ∃ W : Nat → Nat → L2.St → Hp → Prop, (∃ m, W 0 m σ1 H1) ∧ ∀ i m σ H, W i m σ H →
      (J.stop i H ∧ D_.nx σ H) ∨ (J.go i H ∧ ∃ N : L2.St → Hp → Prop, (∀ σ' H', N σ' H' → ∃ m', m' < m ∧ W (i + 1) m' σ' H') ∧ ∀ x H', J.yld i H x H' → g x σ H' fun σ2 H2 => tb { D_ with nx := N, ct := N, bk := D_.nx } σ2 H2) :=
  loop_simP io.inv hg hb hm r1 (Ev.refl (Z := Z) _ rfl) (Ev.refl (Z := Z) _ rfl) h
def lockR (md : Md) (env : Evn) : Evn := match md with
  | .bor (some m) => lockE m env
  | _ => env
def unlR (md : Md) (env0 env : Evn) : Option Evn := match md with
  | .bor (some m) => (match env0[m]? with
    | some (.own _) => (lkD env m).map fun d => env.set m (.own d)
    | _ => some env)
  | _ => some env
def optSo (o : Option Evn) (k : Evn → So) : So := match o with
  | some e => k e
  | none => .stuck
@[simp] theorem optSo_some (e : Evn) (k : Evn → So) : optSo (some e) k = k e := (rfl)
@[simp] theorem optSo_none (k : Evn → So) : optSo none k = .stuck := (rfl)
def So.unl (u : Evn → Option Evn) : So → So
  | .nxt e => optSo (u e) .nxt
  | .brk e => optSo (u e) .brk
  | .cnt e => optSo (u e) .cnt
  | .ret d e => optSo (u e) (.ret d)
  | .exc c x e => optSo (u e) (.exc c x)
  | .stuck => .stuck
def rootHold (env : Evn) : Md → Prop
  | .bor (some m) => hold env m
  | _ => True
theorem lockR_R {md : Md} (r : R K Z F H env σ fp) : R K Z F H (lockR md env) σ fp := by
  unfold lockR
  split
  · rename_i m
    unfold lockE
    split
    · rename_i d q
      exact r.lock q
    · exact r
  · exact r
theorem lockR_own {md : Md} {j : Nat} (h : isOwn (lockR md env) j) : isOwn env j := by
  cases md with
  | own => exact h
  | bor m =>
    cases m with
    | none => exact h
    | some m =>
      have h' : isOwn (lockE m env) j := h
      unfold lockE at h'
      split at h'
      · rename_i d q
        exact ((lock_own q).mp h').1
      · exact h'
theorem root_lk {m : Nat} (h : hold env m) : isLk (lockE m env) m := by
  unfold lockE
  split
  · rename_i d q
    exact (lock_lk q).mpr (.inr rfl)
  · rename_i q
    rcases h with ⟨d, e⟩ | h
    · exact absurd e (q d)
    · exact h
theorem unl_ev {md : Md} {u : Evn} (r : R K Z F H env σ fp) (e : Ev ε F H (lockR md env) fp F' H' env' fp') (r' : R K Z F' H' env' σ1 fp') (hu : unlR md env env' = some u) :
    Ev ε F H env fp F' H' u fp' ∧ R K Z F' H' u σ1 fp' ∧ (∀ a, OwnA u fp' a → OwnA env' fp' a ∨ LkA env' fp' a) := by
  unfold unlR at hu
  unfold lockR at e
  split at hu
  · rename_i m
    simp only at e
    cases q : env[m]? with
    | none =>
      simp only [q] at hu
      cases hu
      unfold lockE at e
      simp only [q] at e
      exact ⟨e, r', fun a h => .inl h⟩
    | some t =>
      cases t with
      | own d =>
        simp only [q] at hu
        rw [Option.map_eq_some_iff] at hu
        obtain ⟨d1, h1, rfl⟩ := hu
        have hl := lkD_get h1
        rw [lockE_own q] at e
        have d10 : d1 = d := by
          obtain ⟨z, _⟩ := e.lks m ⟨d1, hl⟩
          rw [set_get q, if_pos rfl, hl] at z
          cases z
          rfl
        subst d10
        refine ⟨e.unlk q hl, r'.unlk hl fun b hb o w hz => ?_, fun a ⟨j, hj, ha⟩ => ?_⟩
        · obtain ⟨_, z⟩ := e.lks m ⟨_, hl⟩
          rw [z] at hb
          exact r.nf m ⟨_, q⟩ b hb o w (e.nofz b o w hz)
        · rcases (unlk_own hl).mp hj with z | rfl
          · exact .inl ⟨j, z, ha⟩
          · exact .inr ⟨j, ⟨_, hl⟩, ha⟩
      | dead =>
        simp only [q] at hu
        cases hu
        unfold lockE at e
        simp only [q] at e
        exact ⟨e, r', fun a h => .inl h⟩
      | bor _ _ =>
        simp only [q] at hu
        cases hu
        unfold lockE at e
        simp only [q] at e
        exact ⟨e, r', fun a h => .inl h⟩
  · rename_i hne
    cases hu
    have e' : Ev ε F H env fp F' H' env' fp' := by
      cases md with
      | own => exact e
      | bor m =>
        cases m with
        | none => exact e
        | some m => exact (hne m rfl).elim
    exact ⟨e', r', fun a h => .inl h⟩
theorem SPost.lock {md : Md} {o : So} (r : R K Z F H env σ fp) (h : SPost K W Z F H env fp D_ (o.unl (unlR md env))) : SPost K W Z F H (lockR md env) fp D_ o := by
  cases o with
  | stuck => exact h
  | nxt e =>
    simp only [So.unl] at h
    cases q : unlR md env e with
    | none => rw [q] at h; exact h.elim
    | some u =>
      rw [q] at h
      exact fun F' H' fp' σ' ev r' => let z := unl_ev r ev r' q; h F' H' fp' σ' z.1 z.2.1
  | brk e =>
    simp only [So.unl] at h
    cases q : unlR md env e with
    | none => rw [q] at h; exact h.elim
    | some u =>
      rw [q] at h
      exact fun F' H' fp' σ' ev r' => let z := unl_ev r ev r' q; h F' H' fp' σ' z.1 z.2.1
  | cnt e =>
    simp only [So.unl] at h
    cases q : unlR md env e with
    | none => rw [q] at h; exact h.elim
    | some u =>
      rw [q] at h
      exact fun F' H' fp' σ' ev r' => let z := unl_ev r ev r' q; h F' H' fp' σ' z.1 z.2.1
  | exc c x e =>
    simp only [So.unl] at h
    cases q : unlR md env e with
    | none => rw [q] at h; exact h.elim
    | some u =>
      rw [q] at h
      exact fun F' H' fp' σ' dx ev r' rp => let z := unl_ev r ev r' q; h F' H' fp' σ' dx z.1 z.2.1 rp
  | ret d e =>
    simp only [So.unl] at h
    cases q : unlR md env e with
    | none => rw [q] at h; exact h.elim
    | some u =>
      rw [q] at h
      refine fun F' H' fp' σ' v fr ev r' rp ko => ?_
      obtain ⟨z1, z2, z3⟩ := unl_ev r ev r' q
      refine h F' H' fp' σ' v fr z1 z2 rp fun a ha => ?_
      obtain ⟨k1, k2, k3⟩ := ko a ha
      have ap := (lockR_R r).apart ev ko
      refine ⟨k1.imp id fun ⟨j, hj, hm⟩ => ⟨j, lockR_own hj, hm⟩, fun hz => ?_, k3⟩
      rcases z3 a hz with y | ⟨j, hj, hm⟩
      · exact k2 y
      · exact ap.1 j (.inr hj) a ha hm
end
end DL
namespace DL
open PySem PySem.Spec L2
section
variable {K : PySem.W.Frag} {W : WX} {ε : Bool} {F H F1 H1 F2 H2 F' H' F0 H0 : Hp} {env env1 env2 env' env0 : Evn} {fp fp1 fp2 fp' fp0 : Fp} {Z : Zst} {σ σ1 : L2.St} {ms : List Nat} {D_ : Ends}
def Wlk (Z : Zst) (env1 : Evn) (fp1 : Fp) (fr : List Addr) : Md → Prop
  | .own => fr = []
  | .bor none => ∀ a ∈ fr, Z.B a
  | .bor (some m) => isLk env1 m ∧ ∀ a ∈ fr, a ∈ fp1 m
theorem Wlk.no {md : Md} {fr : List Addr} (h : Wlk Z env1 fp1 fr md) (r : R K Z F1 H1 env1 σ1 fp1) : ∀ a ∈ fr, ¬ OwnA env1 fp1 a := fun a ha z => by
  cases md with
  | own =>
    have h' : fr = [] := h
    rw [h'] at ha
    cases ha
  | bor m =>
    cases m with
    | none => exact r.own_B z (h a ha)
    | some m => exact r.own_lk z ⟨m, h.1, h.2 a ha⟩
theorem Wlk.rep {md : Md} {fr : List Addr} {d : D} {v : V} (h : Wlk Z env1 fp1 fr md) (r : R K Z F1 H1 env1 σ1 fp1) (ev : Ev true F1 H1 env1 fp1 F H env fp) (rp : Rep K F1 H1 d v fr) : Rep K F H d v fr :=
  rp.ev ev fun _ => h.no r
theorem lkD_isLk {m : Nat} (h : lkD' env m = true) : isLk env m := by
  unfold lkD' at h
  rw [Option.isSome_iff_exists] at h
  obtain ⟨d, hd⟩ := h
  exact ⟨d, lkD_get hd⟩
theorem Wlk.vm {md : Md} {fr fq : List Addr} (h : Wlk Z env1 fp1 fr md) (ev : Ev true F1 H1 env1 fp1 F H env fp) (hb : rootB md env = true) (hs : ∀ a ∈ fq, a ∈ fr) : ∀ H0 env0 fp0, VMo H0 env0 fp0 Z F H env fp fq md := fun H0 env0 fp0 => by
  cases md with
  | own =>
    have h' : fr = [] := h
    exact fun a ha => by have z := hs a ha; rw [h'] at z; cases z
  | bor m =>
    cases m with
    | none => exact fun a ha => h a (hs a ha)
    | some m =>
      have hl : isLk env m := lkD_isLk hb
      exact ⟨.inr hl, fun a ha => by rw [(ev.lks m hl).2]; exact h.2 a (hs a ha)⟩
def seqD : D → Option (List D)
  | .node _ .lst xs => some xs
  | .node _ .tup xs => some xs
  | _ => none
theorem io_list {o : Bool} {xs : List D} {a : Addr} {fr : List Addr} {md : Md} (h : Wlk Z env1 fp1 fr md) (r1 : R K Z F1 H1 env1 σ1 fp1) (rp : Rep K F1 H1 (.node o .lst xs) (.ref a) fr) : IOk K Z F1 H1 env1 fp1 (Itl K a) xs md where
  go := fun F H env fp σ i d ev r hb hi => by
    obtain ⟨a', vs, fq, ea, ha, rl, sb⟩ := (h.rep r1 ev rp).lst r.sub
    cases ea
    obtain ⟨x, fc, e1, e2, e3⟩ := rl.get _ _ _ i d hi
    refine ⟨⟨vs, x, .inl (.inl ha), e1⟩, fun y H' ⟨eH, hy⟩ => ?_⟩
    subst eH
    have q := hy vs (.inl (.inl ha))
    rw [e1] at q
    cases q
    exact ⟨F, fc, Grow.refl r.sub, e2, h.vm ev hb fun b hb => sb b (e3 b hb)⟩
  stop := fun F H env fp σ i ev r hi => by
    obtain ⟨a', vs, fq, ea, ha, rl, sb⟩ := (h.rep r1 ev rp).lst r.sub
    cases ea
    exact ⟨vs, .inl (.inl ha), by rw [rl.len]; exact hi⟩
theorem io_tup {o : Bool} {xs : List D} {a : Addr} {fr : List Addr} {md : Md} (h : Wlk Z env1 fp1 fr md) (r1 : R K Z F1 H1 env1 σ1 fp1) (rp : Rep K F1 H1 (.node o .tup xs) (.ref a) fr) : IOk K Z F1 H1 env1 fp1 (Itt K a) xs md where
  go := fun F H env fp σ i d ev r hb hi => by
    obtain ⟨a', vs, fq, ea, ha, rl, sb⟩ := (h.rep r1 ev rp).tup r.sub
    cases ea
    obtain ⟨x, fc, e1, e2, e3⟩ := rl.get _ _ _ i d hi
    refine ⟨⟨vs, x, .inl (.inl ha), e1⟩, fun y H' ⟨eH, hy⟩ => ?_⟩
    subst eH
    have q := hy vs (.inl (.inl ha))
    rw [e1] at q
    cases q
    exact ⟨F, fc, Grow.refl r.sub, e2, h.vm ev hb fun b hb => sb b (e3 b hb)⟩
  stop := fun F H env fp σ i ev r hi => by
    obtain ⟨a', vs, fq, ea, ha, rl, sb⟩ := (h.rep r1 ev rp).tup r.sub
    cases ea
    exact ⟨vs, .inl (.inl ha), by rw [rl.len]; exact hi⟩
def rangeD (lo : Int) (n : Nat) : List D := (List.range n).map fun (i : Nat) => .int (lo + (i : Int))
theorem io_range {lo : Int} {n : Nat} : IOk K Z F1 H1 env1 fp1 (Itr lo n) (rangeD lo n) .own where
  go := fun F H env fp σ i d ev r hb hi => by
    unfold rangeD at hi
    rw [List.getElem?_map, Option.map_eq_some_iff] at hi
    obtain ⟨j, e1, rfl⟩ := hi
    have e2 := List.getElem?_range (n := n) (i := i)
    have hlt : i < n := by
      have := (List.getElem?_eq_some_iff.mp e1).1
      simpa using this
    rw [List.getElem?_eq_getElem (by simpa using hlt), List.getElem_range] at e1
    cases e1
    refine ⟨hlt, fun x H' ⟨eH, ex⟩ => ?_⟩
    subst eH ex
    exact ⟨F, [], Grow.refl r.sub, .plain rfl, fun _ _ _ a ha => by cases ha⟩
  stop := fun F H env fp σ i ev r hi => by
    unfold rangeD at hi
    rw [List.length_map, List.length_range] at hi
    exact hi
theorem R.frzV {d : D} {v : V} {fr : List Addr} (r : R K Z F H env σ fp) (rp : Rep K F H d v fr) (h : ∀ a ∈ fr, (∀ j, hold env j → a ∉ fp j) ∧ (¬ Z.B a ∧ F a = none) ∧ NF H a) :
    ∃ F', R K Z F' H env σ fp ∧ (∀ a u, F a = some u → F' a = some u) ∧ (∀ a, F a = none → F' a ≠ none → a ∈ fr) ∧ Rep K F' H d.fz v [] := by
  have hF : ∀ a u, F a = some u → (if a ∈ fr then H a else F a) = some u := fun a u ha => by
    rw [if_neg (fun z => by rw [(h a z).2.1.2] at ha; cases ha)]
    exact ha
  have up : ∀ {d v f}, Rep K F H d v f → Rep K (fun a => if a ∈ fr then H a else F a) H d v f := fun {d v f} x => Rep.mono hF d v f (fun a _ u hu => hu) x
  refine ⟨fun a => if a ∈ fr then H a else F a, ⟨fun a u ha => ?_, fun i => (r.slot i).map fun d v x => up x, r.sep, r.sepB, fun i hi a ha => ?_, r.domB, r.pin, fun p hp => up (r.gh p hp), r.len, r.nf⟩, hF, fun a h1 h2 => ?_, Rep.freeze hF d v fr (fun a ha u hu => ?_) rp⟩
  · by_cases z : a ∈ fr
    · simp only [if_pos z] at ha
      exact .inl ha
    · simp only [if_neg z] at ha
      exact r.sub a u ha
  · have z : a ∉ fr := fun z => (h a z).1 i hi ha
    simp only [if_neg z]
    exact r.hF i hi a ha
  · by_cases z : a ∈ fr
    · exact z
    · simp only [if_neg z] at h2
      exact absurd h1 h2
  · simp only [if_pos ha]
    exact hu.nf (h a ha).2.2
def walkD (k : Kd) (d : D) (env : Evn) : Option (Md × D) := match k with
  | .own => some (.own, d.fz)
  | .frz => some (.own, d)
  | .bor j => if d.frz = true then some (.own, d) else (mdOf (.bor j) env).map fun md => (md, d)
theorem walk_ok {k : Kd} {d d' : D} {v : V} {fr : List Addr} {md : Md} (r0 : R K Z F0 H0 env0 σ fp0) (ev : Ev ε F0 H0 env0 fp0 F H env fp) (r : R K Z F H env σ fp) (rp : Rep K F H d v fr) (ko : KOk k H0 env0 fp0 F env fp fr) (h : walkD k d env = some (md, d')) :
    ∃ F1 fr1, (∀ a u, F a = some u → F1 a = some u) ∧ R K Z F1 H env σ fp ∧ Ev ε F0 H0 env0 fp0 F1 H env fp ∧ Rep K F1 H d' v fr1 ∧ Wlk Z (lockR md env) fp fr1 md := by
  cases k with
  | own =>
    cases h
    obtain ⟨ap1, ap2⟩ := r0.apart ev ko
    obtain ⟨F1, q1, q2, q3, q4⟩ := r.frzV rp fun a ha => ⟨fun j hj => ap1 j hj a ha, ap2 a ha⟩
    refine ⟨F1, [], q2, q1, ⟨ev.keep, fun a u h => q2 a u (ev.sub a u h), fun a h n => ?_, ev.own, ev.lks, ev.nofz, ev.dom, ev.pure⟩, q4, rfl⟩
    by_cases z : F a = none
    · have w := q3 a z n
      rcases (ko a w).1 with y | y
      · exact .inl y
      · cases ε with
        | true => exact .inr ⟨rfl, y⟩
        | false =>
          exfalso
          obtain ⟨e1, e2⟩ := ev.pure rfl
          subst e1 e2
          exact (ko a w).2.1 y
    · exact ev.new a h z
  | frz =>
    cases h
    exact ⟨F, fr, fun _ _ h => h, r, ev, rp, ko⟩
  | bor j =>
    unfold walkD at h
    simp only at h
    split at h
    · rename_i z
      cases h
      have e := Rep.frz_nil d v fr z rp
      exact ⟨F, fr, fun _ _ h => h, r, ev, rp, e⟩
    · rw [Option.map_eq_some_iff] at h
      obtain ⟨md', hm, e⟩ := h
      cases e
      have vm := VMo.of_kd r0 ev r ko hm
      refine ⟨F, fr, fun _ _ h => h, r, ev, rp, ?_⟩
      cases md with
      | own => 
        unfold mdOf at hm
        simp only at hm
        split at hm <;> cases hm
      | bor m =>
        cases m with
        | none => exact vm
        | some m => exact ⟨root_lk vm.1, vm.2⟩
end
end DL
namespace DL
open PySem PySem.Spec L2
section
variable {X : Cx} {W : WX} {ε : Bool} {k : Kd} {ks : List Kd} {ms : List Nat} {tg iter e a b : Expr} {body : List Stmt} {fi : FE} {fa : FA} {gD : Md → D → Evn → Option Evn} {fb : FS} {pos p : Pos}
theorem PI.or {w1 w2 : TI} (h1 : PI X tg iter w1) (h2 : PI X tg iter w2) : PI X tg iter (fun σ H R => w1 σ H R ∨ w2 σ H R) :=
  ⟨fun pins s σ H R I h => h.elim (h1.run pins s σ H R I) (h2.run pins s σ H R I)⟩
def rng1D : List D → Option (List D)
  | [.int j] => if -(2 ^ 62) ≤ j ∧ j < 2 ^ 62 then some (rangeD 0 j.toNat) else none
  | _ => none
def rng2D : List D → Option (List D)
  | [.int i, .int j] => if -(2 ^ 62) ≤ i ∧ i < 2 ^ 62 ∧ -(2 ^ 62) ≤ j ∧ j < 2 ^ 62 then some (rangeD i (j - i).toNat) else none
  | _ => none
def fForR (rg : List D → Option (List D)) (fa : FA) (gD : Md → D → Evn → Option Evn) (fb : FS) : FS := fun env => (fa env).so fun ds e1 => match rg ds with
  | some xs => loopD (gChk .own gD) fb xs e1
  | none => .stuck
theorem ds_for1 (hp : PassesOwn (model X.prog X.w) X.A X.env X.xe) (hc : X.calm = true) (hgl : Gl X "range") (hmg : X.mg "range" = none) (ha : DA X W ε ks [a] fa) (hg : DG X ms tg gD) (hb : DSs X W ms body fb)
    (hs : starEach [a] X.env = [(false, eval a X.env)] := by rfl) (hf : ∀ x, foldedSetIterable (.Call (.Name "range" p) [a] [] pos) X.env x = pure x := by intro _; rfl) {pos2 : Pos} :
    DS X W ms (.For tg (.Call (.Name "range" p) [a] [] pos) body [] pos2) (fForR rng1D fa gD fb) := by
  obtain ⟨t1, p1, s1⟩ := ha.ex
  obtain ⟨t2, p2, s2⟩ := hg.ex
  obtain ⟨t3, p3, s3⟩ := hb.ex
  refine ⟨_, ps_for hp hc (pi_range1 hgl hmg p1 hs) p2 p3 hf, fun Z F H env σ fp D_ hm r h => s1 Z F H env σ fp _ r (SPost.bind h fun ds e1 h1 F1 H1 fp1 vs frs ev r1 rep ko => ?_)⟩
  cases q : rng1D ds with
  | none => rw [q] at h1; exact h1.elim
  | some xs =>
    rw [q] at h1
    unfold rng1D at q
    split at q
    · split at q
      · rename_i j hj
        cases q
        obtain ⟨v, ws, f, fs, rfl, rfl, h2, h3⟩ := rep.inv
        obtain ⟨rfl, rfl⟩ := h3.inv0
        obtain rfl : v = .int j := h2.1
        exact ⟨j, rfl, hj.1, hj.2, loop_sim io_range s2 s3 hm r1 (h1.seq ev)⟩
      · cases q
    · cases q
end
end DL
namespace DL
open PySem PySem.Spec L2
section
variable {K : PySem.W.Frag} {W : WX} {ε : Bool} {F H F1 H1 F2 H2 F' H' F0 H0 : Hp} {env env1 env2 env' env0 : Evn} {fp fp1 fp2 fp' fp0 : Fp} {Z : Zst} {σ σ1 : L2.St} {ms : List Nat} {D_ : Ends}
def Loose (Z : Zst) (F H : Hp) (env : Evn) (fp : Fp) (a : Addr) : Prop := H a ≠ none ∧ (∀ j, hold env j → a ∉ fp j) ∧ (¬ Z.B a ∧ F a = none) ∧ NF H a
theorem Loose.ev {a : Addr} (h : Loose Z F H env fp a) (e : Ev true F H env fp F' H' env' fp') : Loose Z F' H' env' fp' a ∧ H' a = H a := by
  obtain ⟨h1, h2, h3, h4⟩ := h
  have no : ¬ OwnA env fp a := fun ⟨j, hj, hm⟩ => h2 j (.inl hj) hm
  have nl : ¬ LkA env fp a := fun ⟨j, hj, hm⟩ => h2 j (.inr hj) hm
  refine ⟨⟨e.dom a h1, fun j hj hm => ?_, ⟨h3.1, ?_⟩, fun o u ho => h4 o u (e.nofz a o u ho)⟩, ?_⟩
  · rcases hj with hj | hj
    · rcases e.own a ⟨j, hj, hm⟩ with z | z
      · exact h1 z
      · exact no z
    · exact nl (e.lk a ⟨j, hj, hm⟩)
  · cases q : F' a with
    | none => rfl
    | some u =>
      rcases e.new a h3.2 (by rw [q]; exact fun z => by cases z) with z | z
      · exact absurd z h1
      · exact absurd z.2 no
  · cases q : H a with
    | none => exact absurd q h1
    | some o => exact e.keep a o q fun _ => no
theorem Loose.grow {a : Addr} (h : Loose Z F H env fp a) (g : Grow F H F' H') : Loose Z F' H' env fp a ∧ H' a = H a := h.ev (g.ev (ε := true))
def OwnP (K : PySem.W.Frag) (Z : Zst) (H1 : Hp) (env1 : Evn) (fp1 : Fp) (a : Addr) (u : HO) (xs : List D) (vs : List V) (i : Nat) (F H : Hp) (env : Evn) (fp : Fp) : Prop :=
  (F a = some u ∨ (H a = some u ∧ Loose Z F H env fp a)) ∧ ∃ fq, RepL K F H (xs.drop i) (vs.drop i) fq ∧ a ∉ fq ∧ ∀ b ∈ fq, (H1 b = none ∨ OwnA env1 fp1 b) ∧ Loose Z F H env fp b
theorem OwnP.has {a : Addr} {u : HO} {xs : List D} {vs : List V} {i : Nat} (h : OwnP K Z H1 env1 fp1 a u xs vs i F H env fp) (r : R K Z F H env σ fp) (n : isDic u = false) : H a = some u := by
  rcases h.1 with z | z
  · exact (r.sub a u z).ex n
  · exact z.1
end
section
variable {X : Cx} {W : WX} {ε : Bool} {ms : List Nat} {tg iter e : Expr} {body : List Stmt} {fi : FE} {gD : Md → D → Evn → Option Evn} {fb : FS} {pos : Pos}
def iSeq (K : PySem.W.Frag) (tl : TE) : TI := fun σ H R => tl σ H fun x H1 => ∃ a, x = .ref a ∧ (((∃ xs, SqL K H1 a xs) ∧ R (Itl K a) H1) ∨ ((∃ xs, SqT K H1 a xs) ∧ R (Itt K a) H1))
theorem pi_seq {t1 : TE} (p1 : PE X iter t1) : PI X tg iter (iSeq X.K t1) := by
  refine ⟨fun pins s σ H R I h => ?_⟩
  refine thn (p1.run pins s σ H _ I h) fun v s1 ⟨x, H1, I1, r1, a, e, q⟩ => ?_
  subst e
  cases r1
  rcases q with ⟨⟨xs, hq⟩, q⟩ | ⟨⟨xs, hq⟩, q⟩
  · obtain ⟨its, rv, p, hz⟩ := I1.list hq
    refine wpAny_pyIter_list p.isList ?_
    refine ⟨s1.heap.objs.size, [s1.heap.objs.size], _, _, H1, rfl, I1.kept (t' := s1.toks) fun b o e => Heap.get?_push_of_some _ e, turn_list a _, ⟨_, Heap.get?_push_size _ rfl, rfl, rfl⟩, fun b hb => ?_, q⟩
    have e : b = s1.heap.objs.size := by simpa using hb
    subst e
    exact I1.fpOk (Nat.le_refl _) (I1.hok.fresh (Nat.le_refl _))
  · obtain ⟨its, rv, p, hz⟩ := I1.tuple hq
    refine wpAny_pyIter_tuple (show s1.heap.IsTuple a its.toArray from p) ?_
    refine ⟨s1.heap.objs.size, [s1.heap.objs.size], _, _, H1, rfl, I1.kept (t' := s1.toks) fun b o e => Heap.get?_push_of_some _ e, turn_tuple a _, ⟨_, Heap.get?_push_size _ rfl, rfl, rfl⟩, fun b hb => ?_, q⟩
    have e : b = s1.heap.objs.size := by simpa using hb
    subst e
    exact I1.fpOk (Nat.le_refl _) (I1.hok.fresh (Nat.le_refl _))
def fForO (fi : FE) (gD : Md → D → Evn → Option Evn) (fb : FS) : FS := fun env => (fi env).so fun d e1 => match seqD d with
  | some xs => loopD (gChk .own gD) fb xs e1
  | none => .stuck
end
end DL
namespace DL
open PySem PySem.Spec L2
section
variable {K : PySem.W.Frag} {F F' H H' : Hp}
mutual
theorem Rep.monoZ (hF : ∀ a u, F a = some u → F' a = some u) : ∀ (d : D) (v : V) (fp : List Addr), (∀ a ∈ fp, ∀ u, notFz u = true → Has H a u → Has H' a u) → Rep K F H d v fp → Rep K F' H' d v fp
  | .non, v, fp, _, h => h
  | .bl _, v, fp, _, h => h
  | .int _, v, fp, _, h => h
  | .str _, v, fp, _, h => h
  | .ob _, v, fp, _, h => h
  | .ty _, v, fp, _, h => h
  | .scr _, v, fp, _, h => by
    obtain ⟨a, h1, h2, h3⟩ := h
    exact ⟨a, h1, h2, h3.imp (fun ⟨o, z, zz⟩ => ⟨o, hF _ _ z, zz⟩) id⟩
  | .tscr _ _, v, fp, hH, h => by
    obtain ⟨⟨a, h1, h3⟩, h4⟩ := h
    refine ⟨⟨a, h1, h3.imp (fun ⟨o, z, zz⟩ => ⟨o, hF _ _ z, zz⟩) id⟩, h4.mono (fun b u _ => hF b u) fun b hb u hu => hH b hb u ?_⟩
    cases u <;> first | rfl | exact absurd rfl (hu _ _)
  | .lam _ _ _, v, fp, hH, h => ⟨h.1, h.2.1, hF _ _ h.2.2⟩
  | .node true s xs, v, fp, hH, h => by
    simp only [Rep] at h ⊢
    obtain ⟨a, u, vs, fq, rfl, rfl, h1, h2, h3, h4, h5⟩ := h
    exact ⟨a, u, vs, fq, rfl, rfl, hH a (List.mem_cons_self ..) u h2.nfz h1, h2, h3, h4, RepL.monoZ hF xs vs fq (fun b hb => hH b (List.mem_cons_of_mem _ hb)) h5⟩
  | .node false s xs, v, fp, hH, h => by
    simp only [Rep] at h ⊢
    obtain ⟨a, u, vs, rfl, rfl, h1, h2, h3⟩ := h
    exact ⟨a, u, vs, rfl, rfl, hF a u h1, h2, RepL.monoZ hF xs vs [] (fun b hb => nomatch hb) h3⟩
theorem RepL.monoZ (hF : ∀ a u, F a = some u → F' a = some u) : ∀ (ds : List D) (vs : List V) (fp : List Addr), (∀ a ∈ fp, ∀ u, notFz u = true → Has H a u → Has H' a u) → RepL K F H ds vs fp → RepL K F' H' ds vs fp
  | [], vs, fp, _, h => h
  | d :: ds, vs, fp, hH, h => by
    simp only [RepL] at h ⊢
    obtain ⟨v, ws, f1, f2, rfl, rfl, h1, h2, h3⟩ := h
    exact ⟨v, ws, f1, f2, rfl, rfl, h1, Rep.monoZ hF d v f1 (fun b hb => hH b (List.mem_append_left _ hb)) h2, RepL.monoZ hF ds ws f2 (fun b hb => hH b (List.mem_append_right _ hb)) h3⟩
end
end
theorem isDic_nf {u : HO} (h : isDic u = true) : notFz u = true := by cases u <;> simp_all [isDic, notFz]
section
variable {K : PySem.W.Frag} {W : WX} {ε : Bool} {F H F1 H1 F2 H2 F' H' F0 H0 : Hp} {env env1 env2 env' env0 : Evn} {fp fp1 fp2 fp' fp0 : Fp} {Z : Zst} {σ σ1 : L2.St} {ms : List Nat} {D_ : Ends} {d : Addr} {od : Obj} {u : HO}
theorem R.frzd (r : R K Z F H env σ fp) (hd : H d = some u) (hu : isDic u = true) (no : ¬ OwnA env fp d) : R K Z F (upd H d (.frz od u)) env σ fp := by
  have hs : ∀ b w, Has H b w → Has (upd H d (.frz od u)) b w := fun b w hw => by
    by_cases e : b = d
    · subst e
      rcases hw with hw | ⟨⟨o, hw⟩, hz⟩
      · rw [hd] at hw
        cases hw
        exact .inr ⟨⟨od, upd_same⟩, hu⟩
      · rw [hd] at hw
        cases hw
        cases hu
    · exact hw.same fun o ho => by rw [upd_ne e]; exact ho
  have mn : ∀ {x v f}, Rep K F H x v f → Rep K F (upd H d (.frz od u)) x v f := fun {x v f} h => Rep.mono (fun _ _ h => h) x v f (fun b _ w hw => hs b w hw) h
  refine ⟨fun a w ha => hs a w (r.sub a w ha), fun i => (r.slot i).map fun x v h => mn h, r.sep, r.sepB, r.hF, fun a ha => ?_, r.pin, fun p hp => mn (r.gh p hp), r.len, fun i hi a ha o w hw => ?_⟩
  · by_cases e : a = d
    · rw [e, upd_same]; exact fun z => by cases z
    · rw [upd_ne e]; exact r.domB a ha
  · by_cases e : a = d
    · exact no ⟨i, hi, by rw [← e]; exact ha⟩
    · rw [upd_ne e] at hw
      exact r.nf i hi a ha o w hw
theorem unfrz (hd : H d = some u) (hu : isDic u = true) (no : ¬ OwnA env fp d) (hF : F d = none ∨ F d = some u) (e : Ev ε F (upd H d (.frz od u)) env fp F' H' env' fp') (r : R K Z F' H' env' σ fp') :
    Ev ε F H env fp F' (upd H' d u) env' fp' ∧ R K Z F' (upd H' d u) env' σ fp' ∧ H' d = some (.frz od u) := by
  have hH' : H' d = some (.frz od u) := e.keep d _ upd_same fun _ => no
  have hF' : F' d = none ∨ F' d = some u := by
    rcases hF with z | z
    · refine .inl ?_
      cases q : F' d with
      | none => rfl
      | some w =>
        rcases e.new d z (by rw [q]; exact fun z => by cases z) with y | y
        · rw [upd_same] at y; cases y
        · exact absurd y.2 no
    · exact .inr (e.sub d u z)
  have hs : ∀ b w, notFz w = true → Has H' b w → Has (upd H' d u) b w := fun b w hz hw => by
    by_cases e : b = d
    · subst e
      rcases hw with hw | ⟨⟨o, hw⟩, _⟩
      · rw [hH'] at hw
        cases hw
        cases hz
      · rw [hH'] at hw
        cases hw
        exact .inl upd_same
    · exact hw.same fun o ho => by rw [upd_ne e]; exact ho
  have mn : ∀ {x v f}, Rep K F' H' x v f → Rep K F' (upd H' d u) x v f := fun {x v f} h => Rep.monoZ (fun _ _ h => h) x v f (fun b _ w hz hw => hs b w hz hw) h
  have nz : notFz u = true := isDic_nf hu
  refine ⟨⟨fun a o ho n => ?_, e.sub, fun a h1 h2 => ?_, fun a ha => ?_, e.lks, fun a o w hw => ?_, fun a ha => ?_, e.pure⟩, ⟨fun a w ha => ?_, fun i => (r.slot i).map fun x v h => mn h, r.sep, r.sepB, r.hF, fun a ha => ?_, r.pin, fun p hp => mn (r.gh p hp), r.len, fun i hi a ha o w hw => ?_⟩, hH'⟩
  · by_cases z : a = d
    · rw [z, upd_same]; rw [z, hd] at ho; exact ho
    · rw [upd_ne z]; exact e.keep a o (by rw [upd_ne z]; exact ho) n
  · refine (e.new a h1 h2).imp (fun z => ?_) id
    by_cases y : a = d
    · rw [y, upd_same] at z; cases z
    · rw [upd_ne y] at z; exact z
  · refine (e.own a ha).imp (fun z => ?_) id
    by_cases y : a = d
    · rw [y, upd_same] at z; cases z
    · rw [upd_ne y] at z; exact z
  · by_cases y : a = d
    · rw [y, upd_same] at hw
      cases hw
      cases nz
    · rw [upd_ne y] at hw
      have z := e.nofz a o w hw
      rw [upd_ne y] at z
      exact z
  · by_cases y : a = d
    · rw [y, upd_same]; exact fun z => by cases z
    · rw [upd_ne y]; exact e.dom a (by rw [upd_ne y]; exact ha)
  · by_cases y : a = d
    · subst y
      rcases hF' with z | z
      · rw [z] at ha; cases ha
      · rw [z] at ha; cases ha; exact .inl upd_same
    · exact (r.sub a w ha).same fun o ho => by rw [upd_ne y]; exact ho
  · by_cases y : a = d
    · rw [y, upd_same]; exact fun z => by cases z
    · rw [upd_ne y]; exact r.domB a ha
  · by_cases y : a = d
    · rw [y, upd_same] at hw
      cases hw
      cases nz
    · rw [upd_ne y] at hw
      exact r.nf i hi a ha o w hw
structure LkI where
  d : Addr
  od : Obj
  u : HO
def lkH (H : Hp) : Option LkI → Hp
  | none => H
  | some l => upd H l.d (.frz l.od l.u)
def hangA (Z : Zst) (fp : Fp) (a : Addr) : Md → Prop
  | .own => False
  | .bor none => Z.B a
  | .bor (some m) => a ∈ fp m
def LkOk (X : Cx) (md : Md) (Z : Zst) (F H : Hp) (fp : Fp) (isd : Bool) : Option LkI → Prop
  | none => True
  | some l => isd = true ∧ H l.d = some l.u ∧ isDic l.u = true ∧ (∀ o' u', X.H_0 l.d = some (.frz o' u') → False) ∧ (F l.d = some l.u ∨ hangA Z fp l.d md)
def hang (md : Md) (fp1 : Fp) (env2 : Evn) (fp2 : Fp) : Prop := match md with
  | .bor (some m) => isLk env2 m ∧ fp2 m = fp1 m
  | _ => True
theorem LkOk.no {X : Cx} {md : Md} {isd : Bool} {l : LkI} {Z2 : Zst} (h : LkOk X md Z F H fp isd (some l)) (hB : Z2.B = Z.B) (hg : hang md fp env2 fp2) (r : R K Z2 F H env2 σ fp2) : ¬ OwnA env2 fp2 l.d ∧ (F l.d = none ∨ F l.d = some l.u) := by
  obtain ⟨_, h1, h2, _, h3⟩ := h
  have key : ∀ w, F l.d = some w → w = l.u := fun w hw => by
    rcases r.sub l.d w hw with z | ⟨⟨o, z⟩, _⟩
    · rw [h1] at z; cases z; rfl
    · rw [h1] at z
      have z' := Option.some.inj z
      rw [z'] at h2
      cases h2
  have hF : F l.d = none ∨ F l.d = some l.u := by
    cases q : F l.d with
    | none => exact .inl rfl
    | some w => exact .inr (by rw [key w q])
  refine ⟨fun ho => ?_, hF⟩
  rcases h3 with z | z
  · rw [r.own_F ho] at z
    cases z
  · cases md with
    | own => exact z
    | bor m =>
      cases m with
      | none => exact r.own_B ho (by rw [hB]; exact z)
      | some m => exact r.own_lk ho ⟨m, hg.1, by rw [hg.2]; exact z⟩
def ISim (X : Cx) (W : WX) (ε : Bool) (wi : TI) (fI : Evn → Rs (Md × List D × Bool)) : Prop := ∀ Z F H env σ fp (Rq : It → Hp → Prop), R X.K Z F H env σ fp →
  Post X.K W ε Z F H env σ fp (fun y e1 => ∀ F' H' fp' J lk, Ev ε F H env fp F' H' e1 fp' → R X.K Z F' H' e1 σ fp' → rootHold e1 y.1 → LkOk X y.1 Z F' H' fp' y.2.2 lk →
    (∀ Z2 env2 fp2 σ2, Z2.B = Z.B → hang y.1 fp' env2 fp2 → R X.K Z2 F' (lkH H' lk) env2 σ2 fp2 → IOk X.K Z2 F' (lkH H' lk) env2 fp2 J y.2.1 y.1) → Rq J (lkH H' lk)) (fI env) → wi σ H Rq
structure DI (X : Cx) (W : WX) (ε : Bool) (tg iter : Expr) (fI : Evn → Rs (Md × List D × Bool)) : Prop where
  ex : ∃ wi, PI X tg iter wi ∧ ISim X W ε wi fI
end
def Un1 (X : Cx) (P : Hp → Prop) (H : Hp) : Prop := P H ∨ ∃ d od u, H d = some (.frz od u) ∧ (∀ o' u', X.H_0 d = some (.frz o' u') → False) ∧ P (upd H d u)
def tUn (X : Cx) (t : TS) : TS := fun D σ H => t ⟨fun σ' H' => Un1 X (D.nx σ') H', fun v H' => Un1 X (D.rt v) H', fun σ' H' => Un1 X (D.bk σ') H', fun σ' H' => Un1 X (D.ct σ') H'⟩ σ H
def tUnE (X : Cx) (t : TE) : TE := fun σ H Q => t σ H fun v H' => Un1 X (Q v) H'
section
variable {X : Cx}
theorem Un1.out {P : Hp → Prop} {pins : List (Addr × Obj)} {σ : L2.St} {H : Hp} {s : Shared} (I : Inv X pins σ H s) (h : Un1 X P H) : ∃ H', Inv X pins σ H' s ∧ P H' := by
  rcases h with h | ⟨d, od, u, h1, h2, h3⟩
  · exact ⟨H, I, h⟩
  · exact ⟨_, I.unlock h1 (fun o u z => h2 o u z), h3⟩
theorem ps_un {st : Stmt} {t : TS} (h : PS X st t) : PS X st (tUn X t) := by
  refine ⟨fun pins s σ H D I hw => thn (h.run pins s σ H _ I hw) fun f s1 q => ?_⟩
  cases f with
  | next => obtain ⟨σ', H', I2, q⟩ := q; obtain ⟨H2, I3, q⟩ := Un1.out I2 q; exact ⟨σ', H2, I3, q⟩
  | brk => obtain ⟨σ', H', I2, q⟩ := q; obtain ⟨H2, I3, q⟩ := Un1.out I2 q; exact ⟨σ', H2, I3, q⟩
  | cont => obtain ⟨σ', H', I2, q⟩ := q; obtain ⟨H2, I3, q⟩ := Un1.out I2 q; exact ⟨σ', H2, I3, q⟩
  | ret v => obtain ⟨x, σ', H', I2, r, q⟩ := q; obtain ⟨H2, I3, q⟩ := Un1.out I2 q; exact ⟨x, σ', H2, I3, r, q⟩
theorem pe_un {e : Expr} {t : TE} (h : PE X e t) : PE X e (tUnE X t) := by
  refine ⟨fun pins s σ H Q I hw => thn (h.run pins s σ H _ I hw) fun v s1 ⟨x, H1, I2, r, q⟩ => ?_⟩
  obtain ⟨H2, I3, q⟩ := Un1.out I2 q
  exact ⟨x, H2, I3, r, q⟩
end
section
variable {X : Cx} {W : WX} {ε : Bool} {F H F' H' : Hp} {env env2 : Evn} {fp fp2 : Fp} {Z : Zst} {σ : L2.St} {D_ : Ends}
def So.nex (isd : Bool) : So → So
  | .exc c x e => if isd = true then .stuck else .exc c x e
  | o => o
theorem SPost.lkH {md : Md} {isd : Bool} {lk : Option LkI} {o : So} (hl : LkOk X md Z F H fp isd lk) (hg : hang md fp env2 fp2) (r2 : R X.K Z F H env2 σ fp2) (h : SPost X.K W Z F H env2 fp2 D_ (o.nex isd)) :
    SPost X.K W Z F (lkH H lk) env2 fp2 ⟨fun σ' H' => Un1 X (D_.nx σ') H', fun v H' => Un1 X (D_.rt v) H', fun σ' H' => Un1 X (D_.bk σ') H', fun σ' H' => Un1 X (D_.ct σ') H'⟩ o := by
  cases lk with
  | none =>
    cases o with
    | nxt e => exact fun F' H' fp' σ' ev r => .inl (h F' H' fp' σ' ev r)
    | brk e => exact fun F' H' fp' σ' ev r => .inl (h F' H' fp' σ' ev r)
    | cnt e => exact fun F' H' fp' σ' ev r => .inl (h F' H' fp' σ' ev r)
    | ret d e => exact fun F' H' fp' σ' v fr ev r rp ko => .inl (h F' H' fp' σ' v fr ev r rp ko)
    | exc c x e =>
      unfold So.nex at h
      split at h
      · rename_i c' x' e' q
        cases q
        split at h
        · exact h.elim
        · exact h
      · rename_i q
        exact absurd rfl (q c x e)
    | stuck => exact h
  | some l =>
    obtain ⟨no, hF⟩ := hl.no rfl hg r2
    obtain ⟨hi, h1, h2, h3, h4⟩ := hl
    cases o with
    | nxt e => exact fun F' H' fp' σ' ev r => let z := unfrz h1 h2 no hF ev r; .inr ⟨l.d, l.od, l.u, z.2.2, h3, h F' _ fp' σ' z.1 z.2.1⟩
    | brk e => exact fun F' H' fp' σ' ev r => let z := unfrz h1 h2 no hF ev r; .inr ⟨l.d, l.od, l.u, z.2.2, h3, h F' _ fp' σ' z.1 z.2.1⟩
    | cnt e => exact fun F' H' fp' σ' ev r => let z := unfrz h1 h2 no hF ev r; .inr ⟨l.d, l.od, l.u, z.2.2, h3, h F' _ fp' σ' z.1 z.2.1⟩
    | ret d e =>
      refine fun F' H' fp' σ' v fr ev r rp ko => ?_
      obtain ⟨z1, z2, z3⟩ := unfrz h1 h2 no hF ev r
      refine .inr ⟨l.d, l.od, l.u, z3, h3, h F' _ fp' σ' v fr z1 z2 (Rep.monoZ (fun _ _ h => h) _ v fr (fun b hb w hz hw => ?_) rp) fun a ha => ⟨((ko a ha).1).imp (fun z => ?_) id, (ko a ha).2⟩⟩
      · by_cases y : b = l.d
        · subst y
          rcases hw with hw | ⟨⟨o, hw⟩, _⟩
          · rw [z3] at hw; cases hw; cases hz
          · rw [z3] at hw; cases hw; exact .inl upd_same
        · exact hw.same fun o ho => by rw [upd_ne y]; exact ho
      · by_cases y : a = l.d
        · rw [y] at z
          have z' : upd H l.d (.frz l.od l.u) l.d = none := z
          rw [upd_same] at z'
          cases z'
        · have z' : upd H l.d (.frz l.od l.u) a = none := z
          rw [upd_ne y] at z'
          exact z'
    | exc c x e =>
      have h' : SPost X.K W Z F H env2 fp2 D_ (if isd = true then So.stuck else So.exc c x e) := h
      rw [if_pos hi] at h'
      exact h'.elim
    | stuck => exact h
end
section
variable {X : Cx} {W : WX} {ε : Bool} {k : Kd} {ks : List Kd} {ms : List Nat} {tg iter e a b : Expr} {body : List Stmt} {fi : FE} {fa : FA} {fI : Evn → Rs (Md × List D × Bool)} {gD : Md → D → Evn → Option Evn} {fb : FS} {pos p : Pos}
def fForI (fI : Evn → Rs (Md × List D × Bool)) (gD : Md → D → Evn → Option Evn) (fb : FS) : FS := fun env => (fI env).so fun y e1 => ((loopD (gChk y.1 gD) fb y.2.1 (lockR y.1 e1)).nex y.2.2).unl (unlR y.1 e1)
theorem lockR_hang {env : Evn} {fp : Fp} {md : Md} (h : rootHold env md) : hang md fp (lockR md env) fp := by
  cases md with
  | own => trivial
  | bor m =>
    cases m with
    | none => trivial
    | some m => exact ⟨root_lk h, rfl⟩
theorem R.lkH {Z : Zst} {F H : Hp} {env2 : Evn} {σ : L2.St} {fp fp2 : Fp} {md : Md} {isd : Bool} {lk : Option LkI} {Z2 : Zst} (hl : LkOk X md Z F H fp isd lk) (hB : Z2.B = Z.B) (hg : hang md fp env2 fp2) (r2 : R X.K Z2 F H env2 σ fp2) : R X.K Z2 F (lkH H lk) env2 σ fp2 := by
  cases lk with
  | none => exact r2
  | some l =>
    obtain ⟨no, hF⟩ := hl.no hB hg r2
    obtain ⟨hi, h1, h2, h3, h4⟩ := hl
    exact r2.frzd h1 h2 no
theorem ds_forI (hp : PassesOwn (model X.prog X.w) X.A X.env X.xe) (hc : X.calm = true) (hi : DI X W ε tg iter fI) (hg : DG X ms tg gD) (hb : DSs X W ms body fb) (hs : ∀ x, foldedSetIterable iter X.env x = pure x := by intro _; rfl) :
    DS X W ms (.For tg iter body [] pos) (fForI fI gD fb) := by
  obtain ⟨wi, p1, s1⟩ := hi.ex
  obtain ⟨t2, p2, s2⟩ := hg.ex
  obtain ⟨t3, p3, s3⟩ := hb.ex
  refine ⟨_, ps_un (ps_for hp hc p1 p2 p3 hs), fun Z F H env σ fp D_ hm r h => s1 Z F H env σ fp _ r (SPost.bind h fun y e1 h1 F1 H1 fp1 J lk ev r1 hh hl io => ?_)⟩
  have h2 := SPost.lock r1 (h1.seq ev)
  have rL := lockR_R (md := y.1) r1
  have hg' := lockR_hang (fp := fp1) hh
  have h3 := h2.lkH hl hg' rL
  have rK := R.lkH hl rfl hg' rL
  exact loop_sim (io Z _ fp1 σ rfl hg' rK) s2 s3 hm rK h3
end
end DL
namespace DL
open PySem PySem.Spec L2
theorem isDic_mut {u : HO} (h : isDic u = true) : Mut (some u) := by cases u <;> first | exact True.intro | cases h
def iAny (X : Cx) (t1 : TE) : TI := fun σ H R => t1 σ H fun x H1 => (∃ a, x = .ref a ∧ (((∃ xs, SqL X.K H1 a xs) ∧ R (Itl X.K a) H1) ∨ ((∃ xs, SqT X.K H1 a xs) ∧ R (Itt X.K a) H1) ∨
    ∃ u, isDic u = true ∧ ((∃ od, H1 a = some (.frz od u) ∧ (∀ kvs, u = .dK kvs → R (Itk a od kvs) H1) ∧ (∀ kvs, u = .dT kvs → R (Itkt a od kvs) H1)) ∨
      (H1 a = some u ∧ ∀ od, (∀ o' u', X.H_0 a = some (.frz o' u') → False) → (∀ kvs, u = .dK kvs → R (Itk a od kvs) (upd H1 a (.frz od u))) ∧ (∀ kvs, u = .dT kvs → R (Itkt a od kvs) (upd H1 a (.frz od u))))))) ∨ ∃ z, x = .str z ∧ R (Its z) H1
section
variable {X : Cx} {tg iter : Expr}
theorem it_keys {pins : List (Addr × Obj)} {σ : L2.St} {H : Hp} {s : Shared} {R : It → Hp → Prop} {a : Addr} {od : Obj} {u : HO} (I : Inv X pins σ H s) (hu : isDic u = true) (h : H a = some (.frz od u)) (hK : ∀ kvs, u = .dK kvs → R (Itk a od kvs) H) (hT : ∀ kvs, u = .dT kvs → R (Itkt a od kvs) H) :
    wpAny (model X.prog X.w) X.A (pyIter (.ref a)) (PIE X pins σ tg R) X.xe s := by
  cases u with
  | dK kvs =>
    obtain ⟨hs, hgd, hx, es, ep, vs, hdt, hsz, kv, hm⟩ := I.frzK h
    refine iter_keys hs hgd hx hdt (pi_one (tk := s.toks) I _ (turn_keys _ hdt) ⟨_, Heap.get?_push_size _ rfl, rfl, ?_⟩ (hK kvs rfl))
    rw [hsz] <;> rfl
  | dT kvs =>
    obtain ⟨hs, hgd, hx, es, ep, hdt, hsz, ent⟩ := I.frzT h
    refine iter_keys hs hgd hx hdt (pi_one (tk := s.toks) I _ (turn_keysT _ hdt) ⟨_, Heap.get?_push_size _ rfl, rfl, ?_⟩ (hT kvs rfl))
    rw [hsz] <;> rfl
  | _ => cases hu
theorem pi_any {t1 : TE} (p1 : PE X iter t1) : PI X tg iter (iAny X t1) := by
  refine ⟨fun pins s σ H R I h => ?_⟩
  refine thn (p1.run pins s σ H _ I h) fun v s1 ⟨x, H1, I1, r1, q⟩ => ?_
  rcases q with ⟨a, e, q⟩ | ⟨z, e, q⟩
  · subst e
    cases r1
    rcases q with ⟨⟨xs, hq⟩, q⟩ | ⟨⟨xs, hq⟩, q⟩ | ⟨u, hu, q⟩
    · obtain ⟨its, rv, p, hz⟩ := I1.list hq
      refine wpAny_pyIter_list p.isList ?_
      refine ⟨s1.heap.objs.size, [s1.heap.objs.size], _, _, H1, rfl, I1.kept (t' := s1.toks) fun b o e => Heap.get?_push_of_some _ e, turn_list a _, ⟨_, Heap.get?_push_size _ rfl, rfl, rfl⟩, fun b hb => ?_, q⟩
      have e : b = s1.heap.objs.size := by simpa using hb
      subst e
      exact I1.fpOk (Nat.le_refl _) (I1.hok.fresh (Nat.le_refl _))
    · obtain ⟨its, rv, p, hz⟩ := I1.tuple hq
      refine wpAny_pyIter_tuple (show s1.heap.IsTuple a its.toArray from p) ?_
      refine ⟨s1.heap.objs.size, [s1.heap.objs.size], _, _, H1, rfl, I1.kept (t' := s1.toks) fun b o e => Heap.get?_push_of_some _ e, turn_tuple a _, ⟨_, Heap.get?_push_size _ rfl, rfl, rfl⟩, fun b hb => ?_, q⟩
      have e : b = s1.heap.objs.size := by simpa using hb
      subst e
      exact I1.fpOk (Nat.le_refl _) (I1.hok.fresh (Nat.le_refl _))
    · rcases q with ⟨od, hd, hK, hT⟩ | ⟨hd, q⟩
      · exact it_keys I1 hu hd hK hT
      · obtain ⟨od, I2⟩ := I1.lock hd (isDic_mut hu)
        obtain ⟨hK, hT⟩ := q od (fun o' u' z => I1.nofrz hd (isDic_mut hu) o' u' z)
        exact it_keys I2 hu upd_same hK hT
  · subst e
    obtain ⟨t, rfl⟩ := r1
    cases ha : z.cps.all (· < 128)
    · exact wpAny_pyIter_wide ha (pi_one (tk := s1.toks) I1 _ (turn_str _ z t "str_iterator" (.inr rfl)) ⟨_, Heap.get?_push_size _ rfl, rfl, rfl⟩ q)
    · exact wpAny_pyIter_ascii ha (pi_one (tk := s1.toks) I1 _ (turn_str _ z t "str_ascii_iterator" (.inl rfl)) ⟨_, Heap.get?_push_size _ rfl, rfl, rfl⟩ q)
end
def keyV : Key → D
  | .inl i => .int i
  | .inr x => .str x
def itemsD : D → Option (List D × Bool)
  | .node _ .lst xs => some (xs, false)
  | .node _ .tup xs => some (xs, false)
  | .node _ (.dic ks) _ => some (ks.map keyV, true)
  | .str z => some (z.cps.toList.map fun c => .str ⟨#[c]⟩, false)
  | _ => none
def iAnyD (k : Kd) (fi : FE) : Evn → Rs (Md × List D × Bool) := fun env => (fi env).bind fun d e1 => match walkD k d e1 with
  | some (md, d') => (match itemsD d' with
    | some (xs, b) => .ok (md, xs, b) e1
    | none => .stuck)
  | none => .stuck
section
variable {X : Cx} {W : WX} {ε : Bool} {k : Kd} {tg iter : Expr} {fi : FE} {F H F1 H1 : Hp} {env env1 env2 : Evn} {fp fp1 fp2 : Fp} {Z Z2 : Zst} {σ σ2 : L2.St} {md : Md} {fr : List Addr}
theorem walk_hold {d d' : D} {v : V} {F0 H0 : Hp} {env0 : Evn} {fp0 : Fp} (r0 : R X.K Z F0 H0 env0 σ fp0) (ev : Ev ε F0 H0 env0 fp0 F H env fp) (r : R X.K Z F H env σ fp) (rp : Rep X.K F H d v fr) (ko : KOk k H0 env0 fp0 F env fp fr) (h : walkD k d env = some (md, d')) : rootHold env md := by
  cases k with
  | own => cases h; trivial
  | frz => cases h; trivial
  | bor j =>
    unfold walkD at h
    simp only at h
    split at h
    · cases h; trivial
    · rw [Option.map_eq_some_iff] at h
      obtain ⟨md', hm, e⟩ := h
      cases e
      have vm := VMo.of_kd r0 ev r ko hm
      cases md with
      | own => trivial
      | bor m =>
        cases m with
        | none => trivial
        | some m => exact vm.1
theorem Wlk.of {env : Evn} (wk : Wlk Z (lockR md env) fp fr md) (hB : Z2.B = Z.B) (hg : hang md fp env2 fp2) : Wlk Z2 env2 fp2 fr md := by
  cases md with
  | own => exact wk
  | bor m =>
    cases m with
    | none => exact fun a ha => by rw [hB]; exact wk a ha
    | some m => exact ⟨hg.1, fun a ha => by rw [hg.2]; exact wk.2 a ha⟩
theorem io_dic {o : Bool} {ks : List Key} {xs : List D} {a : Addr} {od : Obj} {vs : List V} (hl : ks.length = vs.length) (ha : H a = some (.frz od (.dK (ks.zip vs)))) (no : ¬ OwnA env fp a) : IOk X.K Z F H env fp (Itk a od (ks.zip vs)) (ks.map keyV) md where
  go := fun F' H' env' fp' σ' i d ev r hb hi => by
    rw [List.getElem?_map, Option.map_eq_some_iff] at hi
    obtain ⟨ky, e1, rfl⟩ := hi
    have hi : i < ks.length := (List.getElem?_eq_some_iff.mp e1).1
    have ha' := ev.keep a _ ha fun _ => no
    refine ⟨⟨ha', by rw [List.length_zip, ← hl, Nat.min_self]; exact hi⟩, fun x H'' ⟨eH, ky', v, e2, ex⟩ => ?_⟩
    subst eH ex
    rw [List.getElem?_zip_eq_some] at e2
    rw [e1] at e2
    cases e2.1
    have vm : ∀ H0 env0 fp0, VMo H0 env0 fp0 Z F' H'' env' fp' [] md := fun H0 env0 fp0 => by
      cases md with
      | own => exact fun a ha => by cases ha
      | bor m =>
        cases m with
        | none => exact fun a ha => by cases ha
        | some m => exact ⟨.inr (lkD_isLk hb), fun a ha => by cases ha⟩
    refine ⟨F', [], Grow.refl r.sub, ?_, vm⟩
    cases ky' with
    | inl i => exact .plain rfl
    | inr x => exact .plain rfl
  stop := fun F' H' env' fp' σ' i ev r hi => ⟨ev.keep a _ ha fun _ => no, by rw [List.length_zip, ← hl, Nat.min_self]; simpa using hi⟩
theorem io_str {z : Str} : IOk X.K Z F H env fp (Its z) (z.cps.toList.map fun c => .str ⟨#[c]⟩) .own where
  go := fun F' H' env' fp' σ' i d ev r hb hi => by
    rw [List.getElem?_map, Option.map_eq_some_iff] at hi
    obtain ⟨c, e1, rfl⟩ := hi
    have hi : i < z.cps.size := by
      have := (List.getElem?_eq_some_iff.mp e1).1
      simpa using this
    refine ⟨hi, fun x H'' ⟨eH, c', e2, ex⟩ => ?_⟩
    subst eH ex
    rw [Array.getElem?_toList] at e1
    rw [e1] at e2
    cases e2
    exact ⟨F', [], Grow.refl r.sub, .plain rfl, fun _ _ _ a ha => by cases ha⟩
  stop := fun F' H' env' fp' σ' i ev r hi => by
    show z.cps.size ≤ i
    simpa using hi
theorem di_any (hi : DE X W ε k iter fi) : DI X W ε tg iter (iAnyD k fi) := by
  obtain ⟨t1, p1, s1⟩ := hi.ex
  refine ⟨_, pi_any p1, fun Z F H env σ fp Rq r h => s1 Z F H env σ fp _ r (Post.bind h id id fun d e1 h1 F1 H1 fp1 v fr ev r1 rp ko => ?_)⟩
  cases qw : walkD k d e1 with
  | none => rw [qw] at h1; exact h1.elim
  | some y =>
    obtain ⟨md, d'⟩ := y
    rw [qw] at h1
    simp only at h1
    cases qs : itemsD d' with
    | none => rw [qs] at h1; exact h1.elim
    | some w =>
      obtain ⟨xs, b⟩ := w
      rw [qs] at h1
      have rh := walk_hold r ev r1 rp ko qw
      obtain ⟨F2, fr2, hF, r2, ev2, rp2, wk⟩ := walk_ok r ev r1 rp ko qw
      unfold itemsD at qs
      split at qs
      · cases qs
        obtain ⟨a, vs, fq, rfl, ha, rl, sb⟩ := rp2.lst r2.sub
        exact .inl ⟨a, rfl, .inl ⟨⟨vs, .inl (.inl ha)⟩, h1 F2 H1 fp1 (Itl X.K a) none ev2 r2 rh trivial fun Z2 env2 fp2 σ2 hB hg r3 => io_list (wk.of hB hg) r3 rp2⟩⟩
      · cases qs
        obtain ⟨a, vs, fq, rfl, ha, rl, sb⟩ := rp2.tup r2.sub
        exact .inl ⟨a, rfl, .inr (.inl ⟨⟨vs, .inl (.inl ha)⟩, h1 F2 H1 fp1 (Itt X.K a) none ev2 r2 rh trivial fun Z2 env2 fp2 σ2 hB hg r3 => io_tup (wk.of hB hg) r3 rp2⟩)⟩
      · rename_i o ks zs
        cases qs
        obtain ⟨a, u, vs, fq, rfl, hH, hn, rl, sb⟩ := rp2.node r2.sub
        obtain ⟨⟨hl, nd⟩, rfl⟩ := hn
        -- where the dict itself hangs
        have hA : F2 a = some (.dK (ks.zip vs)) ∨ hangA Z fp1 a md := by
          cases o with
          | false =>
            simp only [Rep] at rp2
            obtain ⟨a', u', vs', ea, _, hF', hn', _⟩ := rp2
            cases ea
            have x := r2.sub a _ hF'
            obtain ⟨⟨hl', _⟩, rfl⟩ := hn'
            refine .inl ?_
            rw [hF']
            rcases hH with q1 | ⟨⟨o1, q1⟩, _⟩
            · rcases x with q2 | ⟨⟨o2, q2⟩, _⟩
              · exact q2.symm.trans q1
              · have z := q2.symm.trans q1
                cases z
            · rcases x with q2 | ⟨⟨o2, q2⟩, _⟩
              · have z := q2.symm.trans q1
                cases z
              · have z := Option.some.inj (q2.symm.trans q1)
                injection z with _ z
                rw [z]
          | true =>
            have ha : a ∈ fr2 := by
              simp only [Rep] at rp2
              obtain ⟨a', u', vs', fq', ea, efr, _⟩ := rp2
              cases ea
              rw [efr]
              exact List.mem_cons_self ..
            refine .inr ?_
            cases md with
            | own =>
              have z : fr2 = [] := wk
              rw [z] at ha
              cases ha
            | bor m =>
              cases m with
              | none => exact wk a ha
              | some m => exact wk.2 a ha
        refine .inl ⟨a, rfl, .inr (.inr ⟨.dK (ks.zip vs), rfl, ?_⟩)⟩
        rcases hH with hH | ⟨⟨od, hH⟩, _⟩
        · refine .inr ⟨hH, fun od hno => ⟨fun kvs ek => ?_, fun kvs ek => by cases ek⟩⟩
          cases ek
          have lko : LkOk X md Z F2 H1 fp1 true (some ⟨a, od, .dK (ks.zip vs)⟩) := ⟨rfl, hH, rfl, hno, hA⟩
          exact h1 F2 H1 fp1 (Itk a od (ks.zip vs)) (some ⟨a, od, .dK (ks.zip vs)⟩) ev2 r2 rh lko fun Z2 env2 fp2 σ2 hB hg r3 => io_dic (o := o) (xs := zs) hl upd_same fun ho => r3.own_nf ho od _ upd_same
        · refine .inl ⟨od, hH, fun kvs ek => ?_, fun kvs ek => by cases ek⟩
          cases ek
          exact h1 F2 H1 fp1 (Itk a od (ks.zip vs)) none ev2 r2 rh trivial fun Z2 env2 fp2 σ2 hB hg r3 => io_dic (o := o) (xs := zs) hl hH fun ho => r3.own_nf ho od _ hH
      · cases qs
        rename_i z
        obtain rfl : v = .str z := rp2.1
        have wm : md = .own := by
          cases k with
          | own => exact (congrArg Prod.fst (Option.some.inj qw)).symm
          | frz => exact (congrArg Prod.fst (Option.some.inj qw)).symm
          | bor j =>
            unfold walkD at qw
            simp only at qw
            split at qw
            · exact (congrArg Prod.fst (Option.some.inj qw)).symm
            · rename_i hz
              rw [Option.map_eq_some_iff] at qw
              obtain ⟨md', hm, e⟩ := qw
              cases e
              exact absurd rfl hz
        subst wm
        exact .inr ⟨z, rfl, h1 F2 H1 fp1 (Its z) none ev2 r2 rh trivial fun Z2 env2 fp2 σ2 hB hg r3 => io_str⟩
      · cases qs
end
end DL
namespace DL
open PySem PySem.Spec L2
def tOfE (K : PySem.W.Frag) (W : WX) (ε : Bool) (k : Kd) (f : FE) : TE := fun σ H Q => ∃ Z F env fp, R K Z F H env σ fp ∧
  Post K W ε Z F H env σ fp (fun d env' => ∀ F' H' fp' v fr, Ev ε F H env fp F' H' env' fp' → R K Z F' H' env' σ fp' → Rep K F' H' d v fr → KOk k H env fp F' env' fp' fr → Q v H') (f env)
def tOfT (K : PySem.W.Frag) (W : WX) (ε : Bool) (f : FT) : TT := fun σ H Q => ∃ Z F env fp, R K Z F H env σ fp ∧
  Post K W ε Z F H env σ fp (fun b env' => ∀ F' H' fp', Ev ε F H env fp F' H' env' fp' → R K Z F' H' env' σ fp' → Q b H') (f env)
def gOfP (K : PySem.W.Frag) (ms : List Nat) (g : Md → D → Evn → Option Evn) : TG := fun v σ H Q => ∃ Z F0 H0 env0 fp0 F env fp d fr md, (∀ p ∈ Z.pins, p.1 ∈ ms) ∧ Ev true F0 H0 env0 fp0 F H env fp ∧ R K Z F H env σ fp ∧
  Rep K F H d v fr ∧ VMo H0 env0 fp0 Z F H env fp fr md ∧ ∃ env', g md d env = some env' ∧ ∀ σ' F' H' fp', Grow F H F' H' → Ev true F0 H0 env0 fp0 F' H' env' fp' → R K Z F' H' env' σ' fp' → Q σ' H'
section
variable {X : Cx} {W : WX} {ε : Bool} {k : Kd} {e tg : Expr} {f : FE} {ft : FT} {gD : Md → D → Evn → Option Evn} {ms : List Nat}
theorem DE.canon (h : DE X W ε k e f) : PE X e (tOfE X.K W ε k f) := by
  obtain ⟨t, p, s⟩ := h.ex
  exact ⟨fun pins sh σ H Q I ⟨Z, F, env, fp, r, hp⟩ => p.run pins sh σ H Q I (s Z F H env σ fp Q r hp)⟩
theorem DT.canon (h : DT X W ε e ft) : PT X e (tOfT X.K W ε ft) := by
  obtain ⟨t, p, s⟩ := h.ex
  exact ⟨fun pins sh σ H Q I ⟨Z, F, env, fp, r, hp⟩ => p.run pins sh σ H Q I (s Z F H env σ fp Q r hp)⟩
theorem DG.canonP (h : DG X ms tg gD) (hp : tgPure tg = true) : PG X tg (gOfP X.K ms gD) := by
  obtain ⟨t, p, s⟩ := h.ex
  refine ⟨fun pins sh σ H v uv Q I rv ⟨Z, F0, H0, env0, fp0, F, env, fp, d, fr, md, hm, e0, r, rp, vm, env', hg, hq⟩ => p.run pins sh σ H v uv Q I rv ?_⟩
  exact s Z F0 H0 env0 fp0 F H env σ fp v d fr md _ hm e0 r rp vm ⟨env', hg, fun σ' F' H' fp' gr ev r' sa kp => hq σ' F' H' fp' (gr hp) ev r'⟩
end
def compD (g : D → Evn → Option Evn) (ft : FT) (fe : FE) (env : Evn) : List D → Option (List D)
  | [] => some []
  | x :: xs => match g x env with
    | none => none
    | some e1 => match ft e1 with
      | .ok true _ => (match fe e1 with
        | .ok d _ => (compD g ft fe env xs).map (d :: ·)
        | _ => none)
      | .ok false _ => compD g ft fe env xs
      | _ => none
def msB (n : Nat) (vs : List Nat) : List Nat := (List.range n).filter fun j => !vs.contains j
def fLc (n : Nat) (vs : List Nat) (fI : Evn → Rs (Md × List D × Bool)) (gD : Md → D → Evn → Option Evn) (ft : FT) (fe : FE) : FE := fun env => (fI env).bind fun y e1 =>
  if e1.length = n ∧ (vs.all fun j => decide (j < n)) = true ∧ rootB y.1 (deadM vs (lockR y.1 e1)) = true then (match compD (gChk y.1 gD) ft fe (deadM vs (lockR y.1 e1)) y.2.1 with
    | some ds => if ds.length ≤ sizeLine then .ok (.node true .lst ds) e1 else .stuck
    | none => .stuck) else .stuck
section
variable {K : PySem.W.Frag} {F H F1 H1 F' H' : Hp} {env env1 env' : Evn} {fp fp1 fp' : Fp} {Z : Zst} {σ σ' : L2.St} {ms : List Nat}
theorem wipe_in {σ : L2.St} {j : Nat} : ∀ {vs : List Nat}, j ∈ vs → j < σ.length → (wipe σ vs)[j]? = some none
  | [], h, _ => by cases h
  | v :: vs, h, hl => by
    unfold wipe
    by_cases e : v = j
    · subst e
      rw [List.getElem?_set_self (by rw [wipe_length]; exact hl)]
    · rw [List.getElem?_set_ne e]
      rcases List.mem_cons.mp h with rfl | h
      · exact absurd rfl e
      · exact wipe_in h hl
theorem R.sigma {Z2 : Zst} (r : R K Z F H env σ fp) (hd : ∀ j : Nat, σ'[j]? ≠ σ[j]? → env[j]? = some Sl.dead) (hl : σ'.length = σ.length) (hB : Z2.B = Z.B) (hn : Z2.n = Z.n) (hgh : Z2.gh = Z.gh) (hp : ∀ p ∈ Z2.pins, σ'[p.1]? = some p.2) : R K Z2 F H env σ' fp where
  sub := r.sub
  slot := fun i => by
    have s := r.slot i
    by_cases e : σ'[i]? = σ[i]?
    · unfold SlotR at s ⊢
      rw [e]
      cases q : env[i]? with
      | none => trivial
      | some t =>
        rw [q] at s
        cases t with
        | dead => trivial
        | own d => exact s
        | bor m d =>
          cases m with
          | none =>
            obtain ⟨v, h1, h2, h3⟩ := s
            exact ⟨v, h1, h2, fun a ha => by rw [hB]; exact h3 a ha⟩
          | some m => exact s
    · unfold SlotR
      rw [hd i e]
      trivial
  sep := r.sep
  sepB := fun i hi a ha => by rw [hB]; exact r.sepB i hi a ha
  hF := r.hF
  domB := fun a ha => r.domB a (by rw [← hB]; exact ha)
  pin := hp
  gh := by rw [hgh]; exact r.gh
  len := by rw [hl, hn]; exact r.len
  nf := r.nf
theorem dead_at : ∀ {vs : List Nat} {env : Evn} {j : Nat}, j ∈ vs → j < env.length → (deadM vs env)[j]? = some .dead
  | [], env, j, h, _ => by cases h
  | v :: vs, env, j, h, hl => by
    rw [deadM]
    by_cases e : j ∈ vs
    · exact dead_at e (by rw [putE_length]; exact hl)
    · rcases List.mem_cons.mp h with rfl | h
      · have key : ∀ {vs : List Nat} {env : Evn}, env[j]? = some .dead → j ∉ vs → (deadM vs env)[j]? = some .dead := by
          intro vs
          induction vs with
          | nil => intro env h _; exact h
          | cons w ws ih =>
            intro env h hn
            simp only [List.mem_cons, not_or] at hn
            rw [deadM]
            refine ih ?_ hn.2
            rw [putE_ne hn.1, h]
            rfl
        exact key (putE_same hl) e
      · exact absurd h e
end
section
variable {X : Cx} {W : WX} {ε : Bool} {k : Kd} {tg iter elt c : Expr} {ifs : List Expr} {scope : Scope} {own : List (Str × Nat)} {pos : Pos} {fI : Evn → Rs (Md × List D × Bool)} {gD : Md → D → Evn → Option Evn} {ft : FT} {fe : FE} {n : Nat}
def WF : WX := fun _ _ _ _ => False
theorem comp_sim {K : PySem.W.Frag} {Z2 : Zst} {F1 Hb : Hp} {env2 : Evn} {fp2 : Fp} {σ2 : L2.St} {J : It} {xs : List D} {md : Md} {vs : List Nat} {Dd : Addr} {ds : List D} {Q : VK} (hk : k.prot = true)
    (r0 : R K Z2 F1 Hb env2 σ2 fp2) (io : IOk K Z2 F1 Hb env2 fp2 J xs md) (hrb : rootB md env2 = true) (hD : Hb Dd = none) (hpin : ∀ p ∈ Z2.pins, p.1 ∈ msB n vs) (hpins : ∀ j, j ∉ vs → j < Z2.n → ∃ v, (j, v) ∈ Z2.pins) (hσ : ∀ j ∈ vs, j < Z2.n → σ2[j]? = some none)
    (hc : compD (gChk md gD) ft fe env2 xs = some ds) (hl : ds.length ≤ sizeLine)
    (hq : ∀ F H vals facc, Grow F1 Hb F H → H Dd = some (.lst vals) → F Dd = none → RepL K F H ds vals facc → Dd ∉ facc → (∀ b ∈ facc, Hb b = none ∧ F b = none) → Q (.ref Dd) H) :
    ∃ W : Nat → Nat → Hp → Prop, (∃ m, W 0 m (upd Hb Dd (.lst []))) ∧ ∀ i m H, W i m H →
      (J.stop i H ∧ Q (.ref Dd) H) ∨ (J.go i H ∧ ∃ Nx : Hp → Prop, (∀ H', Nx H' → ∃ m', m' < m ∧ W (i + 1) m' H') ∧ ∀ x H', J.yld i H x H' → gOfP K (msB n vs) gD x σ2 H' fun σ3 H3 => wipe σ3 vs = σ2 ∧ tOfT K WF false ft σ3 H3 fun b H4 =>
        if b = true then tOfE K WF false k fe σ3 H4 fun y H5 => ∃ acc, H5 Dd = some (.lst acc) ∧ acc.length < sizeLine ∧ Nx (upd H5 Dd (.lst (acc ++ [y]))) else Nx H4) := by
  have hF0 : F1 Dd = none := by
    cases q : F1 Dd with
    | none => rfl
    | some u => exact absurd hD (r0.sub Dd u q).ne
  let P : Nat → Hp → Prop := fun i H => i ≤ xs.length ∧ ∃ F acc vals facc, Grow F1 Hb F H ∧ H Dd = some (.lst vals) ∧ F Dd = none ∧ RepL K F H acc vals facc ∧ Dd ∉ facc ∧ (∀ b ∈ facc, Hb b = none ∧ F b = none) ∧ ∃ rest, compD (gChk md gD) ft fe env2 (xs.drop i) = some rest ∧ acc ++ rest = ds
  refine ⟨fun i m H => m = xs.length - i ∧ P i H, ⟨xs.length, rfl, Nat.zero_le _, F1, [], [], [], Grow.upd r0.sub hD, upd_same, hF0, ⟨rfl, rfl⟩, by simp, fun b hb => (by cases hb), ds, hc, rfl⟩, ?_⟩
  rintro i m H ⟨rfl, hi, F, acc, vals, facc, gr, hDl, hFD, rl, nD, hfa, rest, hr, hds⟩
  have r1 := r0.grow gr
  have ev1 : Ev true F1 Hb env2 fp2 F H env2 fp2 := gr.ev
  by_cases hlt : i < xs.length
  · obtain ⟨hgo, hy⟩ := io.go F H env2 fp2 σ2 i _ ev1 r1 hrb (List.getElem?_eq_getElem hlt)
    refine .inr ⟨hgo, P (i + 1), fun H' hP => ⟨xs.length - (i + 1), by omega, rfl, hP⟩, fun x H' hyx => ?_⟩
    obtain ⟨F', fr, g2, rp, vm⟩ := hy x H' hyx
    rw [List.drop_eq_getElem_cons hlt] at hr
    unfold compD at hr
    cases qg : gChk md gD xs[i] env2 with
    | none => rw [qg] at hr; cases hr
    | some e1 =>
      rw [qg] at hr
      simp only at hr
      have qg' : gD md xs[i] env2 = some e1 := by
        unfold gChk at qg
        rw [if_pos hrb] at qg
        exact qg
      refine ⟨Z2, F', H', env2, fp2, F', env2, fp2, xs[i], fr, md, hpin, Ev.refl (Z := Z2) _ rfl, r1.grow g2, rp, vm H' env2 fp2, e1, qg', fun σ3 F3 H3 fp3 g3 ev3 r3 => ?_⟩
      have hw : wipe σ3 vs = σ2 := by
        apply List.ext_getElem?
        intro j
        have l3 := r3.len.1
        have l2 := r0.len.1
        by_cases hj : j < Z2.n
        · by_cases hv : j ∈ vs
          · rw [wipe_in hv (by rw [l3]; exact hj), hσ j hv hj]
          · rw [wipe_out hv]
            obtain ⟨v, hp⟩ := hpins j hv hj
            have z1 := r3.pin _ hp
            have z2 := r0.pin _ hp
            rw [z1, z2]
        · rw [List.getElem?_eq_none (by rw [wipe_length, l3]; omega), List.getElem?_eq_none (by rw [l2]; omega)]
      refine ⟨hw, Z2, F3, e1, fp3, r3, ?_⟩
      -- all that was built stays
      have keep : ∀ {F4 H4}, Grow F H F4 H4 → H4 Dd = some (.lst vals) ∧ F4 Dd = none ∧ RepL K F4 H4 acc vals facc ∧ (∀ b ∈ facc, Hb b = none ∧ F4 b = none) := fun {F4 H4} g => by
        have none_of : ∀ b, F b = none → H b ≠ none → F4 b = none := fun b h1 h2 => by
          cases q : F4 b with
          | none => rfl
          | some u => exact absurd (g.new b h1 (by rw [q]; exact fun z => by cases z)) h2
        exact ⟨g.keep _ _ hDl, none_of Dd hFD (by rw [hDl]; exact fun z => by cases z), rl.grow g, fun b hb => ⟨(hfa b hb).1, none_of b (hfa b hb).2 (RepL.dom _ _ _ rl b hb)⟩⟩
      have gF3 := g2.trans g3
      cases qt : ft e1 with
      | exc c x e => rw [qt] at hr; cases hr
      | stuck => rw [qt] at hr; cases hr
      | ok b e4 =>
        intro F4 H4 fp4 ev4 r4
        obtain ⟨ee4, ef4⟩ := ev4.pure rfl
        subst ee4 ef4
        have g4 := ev4.grow r4
        have gF4 := gF3.trans g4
        cases b with
        | false =>
          rw [qt] at hr
          simp only at hr
          obtain ⟨k1, k2, k3, k4⟩ := keep gF4
          exact ⟨by omega, F4, acc, vals, facc, gr.trans gF4, k1, k2, k3, nD, k4, rest, hr, hds⟩
        | true =>
          rw [qt] at hr
          simp only at hr
          cases qe : fe e4 with
          | exc c x e => rw [qe] at hr; cases hr
          | stuck => rw [qe] at hr; cases hr
          | ok d e5 =>
            rw [qe] at hr
            rw [Option.map_eq_some_iff] at hr
            obtain ⟨rest', hr', rfl⟩ := hr
            simp only [if_true]
            refine ⟨Z2, F4, e4, fp4, r4, ?_⟩
            rw [qe]
            intro F5 H5 fp5 y fy ev5 r5 rp5 ko5
            obtain ⟨ee5, ef5⟩ := ev5.pure rfl
            subst ee5 ef5
            have g5 := ev5.grow r5
            have gF5 := gF4.trans g5
            obtain ⟨k1, k2, k3, k4⟩ := keep gF5
            have gb5 := gr.trans gF5
            have gb4 := gr.trans gF4
            have hfy : ∀ b ∈ fy, Hb b = none ∧ F5 b = none ∧ H4 b = none := fun b hb => by
              cases k with
              | own =>
                obtain ⟨z1, z2, z3⟩ := ko5 b hb
                have n4 : H4 b = none := z1.resolve_right z2
                refine ⟨?_, z3, n4⟩
                cases q : Hb b with
                | none => rfl
                | some o => rw [gb4.keep b o q] at n4; cases n4
              | frz =>
                have z : fy = [] := ko5
                rw [z] at hb
                cases hb
              | bor _ => cases hk
            have hlen : vals.length < sizeLine := by
              rw [rl.len]
              rw [← hds] at hl
              simp at hl
              omega
            have nfy : Dd ∉ fy := fun z => by
              have q := (hfy Dd z).2.2
              rw [(keep gF4).1] at q
              cases q
            have dj : ∀ b ∈ facc, b ∉ fy := fun b hb hm => by
              have q := (hfy b hm).2.2
              exact RepL.dom _ _ _ (keep gF4).2.2.1 b hb q
            have nDa : Dd ∉ facc ++ fy := fun z => (List.mem_append.mp z).elim nD nfy
            refine ⟨vals, k1, hlen, by omega, F5, acc ++ [d], vals ++ [y], facc ++ fy, ?_, upd_same, k2, ?_, nDa, fun b hb => ?_, rest', hr', by rw [← hds]; simp⟩
            · refine ⟨fun a o ho => ?_, gb5.sub, gb5.new, fun a u ha => ?_, fun a o u ho => ?_⟩
              · have ne : a ≠ Dd := fun z => by rw [z, hD] at ho; cases ho
                rw [upd_ne ne]
                exact gb5.keep a o ho
              · have ne : a ≠ Dd := fun z => by rw [z, k2] at ha; cases ha
                exact (gb5.has a u ha).same fun o ho => by rw [upd_ne ne]; exact ho
              · exact gb5.nofz a o u (nofz_upd rfl a o u ho)
            · exact (k3.app (.one rp5) dj).at_upd nDa
            · rcases List.mem_append.mp hb with hb | hb
              · exact k4 b hb
              · exact ⟨(hfy b hb).1, (hfy b hb).2.1⟩
  · refine .inl ⟨io.stop F H env2 fp2 σ2 i ev1 r1 (by omega), ?_⟩
    rw [List.drop_eq_nil_of_le (by omega)] at hr
    cases hr
    rw [List.append_nil] at hds
    subst hds
    exact hq F H vals facc gr hDl hFD rl nD hfa
end
end DL
namespace DL
open PySem PySem.Spec L2
section
variable {X : Cx} {W : WX} {ε : Bool} {k : Kd} {tg iter elt c : Expr} {ifs : List Expr} {scope : Scope} {own : List (Str × Nat)} {pos : Pos} {fI : Evn → Rs (Md × List D × Bool)} {gD : Md → D → Evn → Option Evn} {ft : FT} {fe : FE} {n : Nat} {vs : List Nat} {ms : List Nat}
def fYes : FT := fun env => .ok true env
structure DTs (X : Cx) (ifs : List Expr) (ft : FT) : Prop where
  run : PTs X ifs (tOfT X.K WF false ft)
theorem dts_nil : DTs X [] fYes := ⟨⟨fun pins s σ H Q I ⟨Z, F, env, fp, r, h⟩ => wpAny_tests_nil ⟨H, I, h F H fp (Ev.refl (Z := Z) _ rfl) r⟩⟩⟩
theorem lockE_length {env : Evn} {m : Nat} : (lockE m env).length = env.length := by
  unfold lockE
  split
  · rw [List.length_set]
  · rfl
theorem lockR_length {env : Evn} {md : Md} : (lockR md env).length = env.length := by
  unfold lockR
  split
  · exact lockE_length
  · rfl
theorem esim_lc {wi : TI} (hk : k.prot = true) (s1 : ISim X W ε wi fI) (hv : own.map (·.2) = vs) : ESim X.K W ε .own (tUnE X (tLc wi (gOfP X.K (msB n vs) gD) (tOfT X.K WF false ft) (tOfE X.K WF false k fe) (own.map (·.2)))) (fLc n vs fI gD ft fe) := by
  intro Z F H env σ fp Q r h
  rw [hv]
  refine s1 Z F H env σ fp _ r (Post.bind h id id fun y e1 h1 F1 H1 fp1 J lk ev r1 hh hl io => ?_)
  intro Dd hD
  split at h1
  case isFalse => exact h1.elim
  rename_i hcond
  obtain ⟨hlen, hall, hrb⟩ := hcond
  cases qc : compD (gChk y.1 gD) ft fe (deadM vs (lockR y.1 e1)) y.2.1 with
  | none => rw [qc] at h1; exact h1.elim
  | some ds =>
    rw [qc] at h1
    simp only at h1
    split at h1
    case isFalse => exact h1.elim
    rename_i hz
    have hvs : ∀ j ∈ vs, j < n := fun j hj => by
      have := List.all_eq_true.mp hall j hj
      simpa using this
    have hvl : ∀ j ∈ vs, j < (lockR y.1 e1).length := fun j hj => by rw [lockR_length, hlen]; exact hvs j hj
    have rL := lockR_R (md := y.1) r1
    have rD := rL.dead hvl
    have hZn : Z.n = n := by rw [← r1.len.2, hlen]
    let Z2 : Zst := ⟨Z.B, ((msB n vs).filterMap fun j => ((wipe σ vs)[j]?).map fun v => (j, v)), Z.n, Z.gh⟩
    have hl1 := r1.len.1
    have rS : R X.K Z2 F1 H1 (deadM vs (lockR y.1 e1)) (wipe σ vs) (fpD vs fp1) := by
      refine rD.sigma (fun j hj => ?_) (wipe_length σ vs) rfl rfl rfl fun p hp => ?_
      · by_cases hjv : j ∈ vs
        · exact dead_at hjv (hvl j hjv)
        · exact absurd (wipe_out hjv) hj
      · obtain ⟨j, _, h2⟩ := List.mem_filterMap.mp hp
        rw [Option.map_eq_some_iff] at h2
        obtain ⟨v, h3, rfl⟩ := h2
        exact h3
    have hgen : ∀ md, rootB md (deadM vs (lockR y.1 e1)) = true → hang md fp1 (deadM vs (lockR y.1 e1)) (fpD vs fp1) := fun md hrb => by
      cases md with
      | own => trivial
      | bor m =>
        cases m with
        | none => trivial
        | some m =>
          have z := lkD_isLk (show lkD' _ m = true from hrb)
          have z2 := (hold_dead hvl).2.mp z
          exact ⟨z, by unfold fpD; rw [if_neg z2.2]⟩
    have hg := hgen y.1 hrb
    have rK := R.lkH (Z2 := Z2) hl rfl hg rS
    have io' := io Z2 _ _ _ rfl hg rK
    refine comp_sim (Q := fun v H' => Un1 X (Q v) H') hk rK io' hrb hD (fun p hp => ?_) (fun j hj hjn => ?_) (fun j hj hjn => ?_) qc hz fun F2 H2 vals facc gr hDl hFD rl nD hfa => ?_
    · obtain ⟨j, h3, h2⟩ := List.mem_filterMap.mp hp
      rw [Option.map_eq_some_iff] at h2
      obtain ⟨v, _, rfl⟩ := h2
      exact h3
    · have hjl : j < (wipe σ vs).length := by rw [wipe_length, hl1]; exact hjn
      refine ⟨(wipe σ vs)[j], List.mem_filterMap.mpr ⟨j, ?_, by rw [List.getElem?_eq_getElem hjl]; rfl⟩⟩
      unfold msB
      rw [List.mem_filter, List.mem_range]
      have hjn' : j < Z.n := hjn
      exact ⟨by rw [← hZn]; exact hjn', by simpa using hj⟩
    · have hjn' : j < Z.n := hjn
      exact wipe_in hj (by rw [hl1]; exact hjn')
    · -- the end: the heap as it was, with the list
      have fin : ∀ {H3 : Hp}, Grow F1 H1 F2 H3 → H3 Dd = some (.lst vals) → RepL X.K F2 H3 ds vals facc → (∀ b ∈ facc, H1 b = none) → H1 Dd = none → Q (.ref Dd) H3 := fun {H3} g hd rl2 hn hn2 => by
        have e2 : Ev ε F1 H1 e1 fp1 F2 H3 e1 fp1 := g.ev
        refine h1 F2 H3 fp1 (.ref Dd) (Dd :: facc) ((ev.trans e2).mono (by cases ε <;> simp) (by cases ε <;> simp)) (r1.grow g) ?_ fun a ha => ?_
        · rw [Rep]
          exact ⟨Dd, .lst vals, vals, facc, rfl, rfl, .inl hd, rfl, nD, (fun z => by cases z), rl2⟩
        · rcases List.mem_cons.mp ha with rfl | ha
          · exact ⟨.inl (ev.nd hn2), fun z => r1.own_dom z hn2, hFD⟩
          · exact ⟨.inl (ev.nd (hn a ha)), fun z => r1.own_dom z (hn a ha), (hfa a ha).2⟩
      cases lk with
      | none => exact .inl (fin gr hDl rl (fun b hb => (hfa b hb).1) hD)
      | some l =>
        have hgL := lockR_hang (fp := fp1) hh
        obtain ⟨no, hF⟩ := hl.no (Z2 := Z) rfl hgL rL
        have rLk := R.lkH (Z2 := Z) hl rfl hgL rL
        obtain ⟨hi, h5, h6, h7, h8⟩ := hl
        have gr' : Grow F1 (upd H1 l.d (.frz l.od l.u)) F2 H2 := gr
        have rEnd := rLk.grow gr
        obtain ⟨z1, z2, z3⟩ := unfrz (ε := false) h5 h6 no hF gr'.ev rEnd
        have g3 := z1.grow z2
        have ndD : Dd ≠ l.d := fun z => by
          have q : upd H1 l.d (.frz l.od l.u) Dd = none := hD
          rw [z, upd_same] at q
          cases q
        have nf : ∀ b ∈ facc, b ≠ l.d := fun b hb z => by
          have q : upd H1 l.d (.frz l.od l.u) b = none := (hfa b hb).1
          rw [z, upd_same] at q
          cases q
        refine .inr ⟨l.d, l.od, l.u, z3, h7, fin g3 (by rw [upd_ne ndD]; exact hDl) (RepL.mono (fun _ _ h => h) _ _ _ (fun b hb w hw => hw.same fun o ho => by rw [upd_ne (nf b hb)]; exact ho) rl) (fun b hb => ?_) ?_⟩
        · have q : upd H1 l.d (.frz l.od l.u) b = none := (hfa b hb).1
          rw [upd_ne (nf b hb)] at q
          exact q
        · have q : upd H1 l.d (.frz l.od l.u) Dd = none := hD
          rw [upd_ne ndD] at q
          exact q
theorem de_lc (n : Nat) (vs : List Nat) (own : List (Str × Nat)) (hc : X.calm = true) (hN : X.N.Nodup) (hi : DI X W ε tg iter fI)
    (hg : ∀ (s : Shared) (H : Hp) (C : Addr) (cl : List (Str × Addr)) (fp : List Addr), DG (X.blk s H scope (compEnvC scope cl C X.env) fp) (msB n vs) tg gD) (ht : ∀ (s : Shared) (H : Hp) (C : Addr) (cl : List (Str × Addr)) (fp : List Addr), DTs (X.blk s H scope (compEnvC scope cl C X.env) fp) ifs ft)
    (he : ∀ (s : Shared) (H : Hp) (C : Addr) (cl : List (Str × Addr)) (fp : List Addr), DE (X.blk s H scope (compEnvC scope cl C X.env) fp) WF false k elt fe) (hk : k.prot = true := by rfl) (hv : own.map (·.2) = vs := by rfl)
    (ok : blkC X.N X.env.scope scope own = true := by first | rfl | decide) (hp : tgPure tg = true := by rfl) (hs : ∀ x, foldedSetIterable iter X.env x = pure x := by intro _; rfl) : DE X W ε .own (.ListComp elt [⟨tg, iter, ifs, 0⟩] scope pos) (fLc n vs fI gD ft fe) := by
  obtain ⟨wi, p1, s1⟩ := hi.ex
  exact ⟨_, pe_un (pe_lc (te := tOfE X.K WF false k fe) (tt := tOfT X.K WF false ft) (g := gOfP X.K (msB n vs) gD) hc hN p1 (blkOk_by ok) (fun s H C cl fp => (hg s H C cl fp).canonP hp) (fun s H C cl fp => (ht s H C cl fp).run) (fun s H C cl fp => (he s H C cl fp).canon) hs), esim_lc hk s1 hv⟩
end
end DL
namespace DL
open PySem PySem.Spec L2
section
variable {X : Cx} {K : PySem.W.Frag} {f : Value} {r1 r2 : List V → Hp → VK → Prop}
theorem callr_or (h1 : CallR X f r1) (h2 : CallR X f r2) : CallR X f (fun xs H Q => r1 xs H Q ∨ r2 xs H Q) := fun pins s σ H xs us Q I r h => h.elim (h1 pins s σ H xs us Q I r) (h2 pins s σ H xs us Q I r)
def rLen (K : PySem.W.Frag) : List V → Hp → VK → Prop := fun xs H Q => (∃ z, xs = [.str z] ∧ z.length ≤ sizeLine ∧ Q (.int z.length) H) ∨ (∃ p ys, xs = [.ref p] ∧ (SqL K H p ys ∨ SqT K H p ys) ∧ Q (.int ys.length) H) ∨
  (∃ a kvs, xs = [V.ref a] ∧ Rd H a (.dK kvs) ∧ Q (.int kvs.length) H) ∨ ∃ a kvs, xs = [V.ref a] ∧ Rd H a (.dT kvs) ∧ Q (.int kvs.length) H
theorem cr_len : CallR X (.builtin "len") (rLen X.K) := by
  intro pins s σ H xs us Q I r h
  rcases h with h | h | ⟨a, kvs, rfl, hd, q⟩ | ⟨a, kvs, rfl, hd, q⟩
  · exact call_len_str pins s σ H xs us Q I r h
  · exact call_len_seq pins s σ H xs us Q I r h
  · obtain ⟨u, rfl, rx⟩ := vals1 r
    obtain rfl : u = .ref a := rx
    exact d_len I hd fun t s' I' => ⟨.int kvs.length, H, I', ⟨t, rfl⟩, q⟩
  · obtain ⟨u, rfl, rx⟩ := vals1 r
    obtain rfl : u = .ref a := rx
    obtain ⟨z, hs, ys, rel, dd⟩ := dt_rd I.hok hd
    have hl : kvs.length = ys.length := Paired.length rel
    have hn := line63
    refine PySem.call_len_dictH hs dd (by omega) ?_
    rw [← hl]
    exact ⟨.int kvs.length, H, I.tok _, ⟨_, rfl⟩, q⟩
theorem ok_len : OpOk K (rLen K) oLen := by
  intro F H ds vs frs d Q hs rep e q
  unfold oLen at e
  split at e
  · rw [Option.map_eq_some_iff] at e
    obtain ⟨n, e1, rfl⟩ := e
    obtain ⟨v, fr, rfl, rfl, h1⟩ := rep.one
    unfold lenD at e1
    have fin : ∀ (m : Nat), m = n → Q (.int m) H := fun m hm => by rw [hm]; exact same_q hs (.plain rfl) q
    split at e1
    · split at e1
      · rename_i hz
        cases e1
        obtain rfl : v = .str _ := h1.1
        exact .inl ⟨_, rfl, hz, fin _ rfl⟩
      · cases e1
    · cases e1
      obtain ⟨p, ys, fq, rfl, hp, rl, _⟩ := h1.lst hs
      exact .inr (.inl ⟨p, ys, rfl, .inl (.of hp), fin _ (by rw [rl.len])⟩)
    · cases e1
      obtain ⟨p, ys, fq, rfl, hp, rl, _⟩ := h1.tup hs
      exact .inr (.inl ⟨p, ys, rfl, .inr (.of hp), fin _ (by rw [rl.len])⟩)
    · cases e1
      obtain ⟨a, u, vs, fq, rfl, h3, ⟨⟨hl, _⟩, rfl⟩, h5, _⟩ := h1.node hs
      exact .inr (.inr (.inl ⟨a, _, rfl, h3.rd, fin _ (by rw [List.length_zip, hl, Nat.min_self, h5.len])⟩))
    · cases e1
      obtain ⟨a, u, vs, fq, rfl, h3, ⟨⟨hl, _⟩, rfl⟩, h5, _⟩ := h1.node hs
      exact .inr (.inr (.inr ⟨a, _, rfl, h3.rd, fin _ (by rw [List.length_zip, hl, Nat.min_self, h5.len])⟩))
    · cases e1
  · cases e
def r1p (P : V → V → Prop) : List V → Hp → VK → Prop := fun xs H Q => ∃ x y, xs = [x] ∧ P x y ∧ Q y H
def o1 (g : D → Option D) : List D → Option D := fun ds => match ds with
  | [d] => g d
  | _ => none
theorem ok_1p {P : V → V → Prop} {g : D → Option D} (h : ∀ d e, g d = some e → ∃ x y, plainV d = some x ∧ plainV e = some y ∧ P x y) : OpOk K (r1p P) (o1 g) := by
  intro F H ds vs frs d Q hs rep e q
  unfold o1 at e
  split at e
  · rename_i c
    obtain ⟨x, y, h1, h2, h3⟩ := h _ _ e
    obtain ⟨v, fr, rfl, rfl, h4⟩ := rep.one
    have ev : v = x := by
      cases c <;> simp only [plainV, Option.some.injEq, reduceCtorEq] at h1 <;> subst h1 <;> exact h4.1
    subst ev
    exact ⟨v, y, rfl, h3, same_q hs (.plain h2) q⟩
  · cases e
def gAbs : D → Option D
  | .int i => some (.int (if i < 0 then -i else i))
  | _ => none
theorem cr_abs : CallR X (.builtin "abs") (r1p fun x y => ∃ i, x = .int i ∧ y = .int (if i < 0 then -i else i)) := fun pins s σ H xs us Q I r ⟨x, y, e, ⟨i, ex, ey⟩, q⟩ => by
  subst e ex ey
  exact call_abs pins s σ H _ us Q I r ⟨i, rfl, q⟩
theorem ok_abs : OpOk K (r1p fun x y => ∃ i, x = .int i ∧ y = .int (if i < 0 then -i else i)) (o1 gAbs) := ok_1p fun d e h => by
  cases d <;> simp only [gAbs, Option.some.injEq, reduceCtorEq] at h
  subst h
  exact ⟨_, _, rfl, rfl, _, rfl, rfl⟩
def gStr : D → Option D
  | .int i => if i.natAbs.log2 < 1920 then some (.str (toString i)) else none
  | .str x => some (.str x)
  | _ => none
def rMax2 : List V → Hp → VK → Prop := fun xs H Q => ∃ i j, xs = [.int i, .int j] ∧ Q (.int (if j > i then j else i)) H
def oMax2 : List D → Option D
  | [.int i, .int j] => some (.int (if j > i then j else i))
  | _ => none
theorem ok_max2 : OpOk K rMax2 oMax2 := by
  intro F H ds vs frs d Q hs rep e q
  unfold oMax2 at e
  split at e
  · cases e
    obtain ⟨v, w, f, g1, rfl, rfl, ⟨rfl, rfl⟩, ⟨rfl, rfl⟩⟩ := rep.two
    exact ⟨_, _, rfl, same_q hs (.plain rfl) q⟩
  · cases e
def blsD : List D → Option (List Bool)
  | [] => some []
  | .bl b :: ds => (blsD ds).map (b :: ·)
  | _ => none
theorem blsD_rep {F H : Hp} : ∀ {ds : List D} {bs : List Bool} {vs : List V} {fr : List Addr}, blsD ds = some bs → RepL K F H ds vs fr → vs = bs.map V.bl
  | [], bs, vs, fr, e, h => by cases e; exact h.nil_inv.1
  | .bl b :: ds, bs, vs, fr, e, h => by
    simp only [blsD, Option.map_eq_some_iff] at e
    obtain ⟨bs', e1, rfl⟩ := e
    obtain ⟨v, ws, f1, f2, rfl, rfl, _, h2, h3⟩ := h.cons_inv
    rw [blsD_rep e1 h3, h2.1]
    rfl
  | .non :: _, _, _, _, e, _ => by cases e
  | .int _ :: _, _, _, _, e, _ => by cases e
  | .str _ :: _, _, _, _, e, _ => by cases e
  | .ob _ :: _, _, _, _, e, _ => by cases e
  | .ty _ :: _, _, _, _, e, _ => by cases e
  | .scr _ :: _, _, _, _, e, _ => by cases e
  | .tscr _ _ :: _, _, _, _, e, _ => by cases e
  | .lam _ _ _ :: _, _, _, _, e, _ => by cases e
  | .node _ _ _ :: _, _, _, _, e, _ => by cases e
def intsD : List D → Option (List Int)
  | [] => some []
  | .int b :: ds => (intsD ds).map (b :: ·)
  | _ => none
theorem intsD_rep {F H : Hp} : ∀ {ds : List D} {bs : List Int} {vs : List V} {fr : List Addr}, intsD ds = some bs → RepL K F H ds vs fr → vs = bs.map V.int
  | [], bs, vs, fr, e, h => by cases e; exact h.nil_inv.1
  | .int b :: ds, bs, vs, fr, e, h => by
    simp only [intsD, Option.map_eq_some_iff] at e
    obtain ⟨bs', e1, rfl⟩ := e
    obtain ⟨v, ws, f1, f2, rfl, rfl, _, h2, h3⟩ := h.cons_inv
    rw [intsD_rep e1 h3, h2.1]
    rfl
  | .non :: _, _, _, _, e, _ => by cases e
  | .bl _ :: _, _, _, _, e, _ => by cases e
  | .str _ :: _, _, _, _, e, _ => by cases e
  | .ob _ :: _, _, _, _, e, _ => by cases e
  | .ty _ :: _, _, _, _, e, _ => by cases e
  | .scr _ :: _, _, _, _, e, _ => by cases e
  | .tscr _ _ :: _, _, _, _, e, _ => by cases e
  | .lam _ _ _ :: _, _, _, _, e, _ => by cases e
  | .node _ _ _ :: _, _, _, _, e, _ => by cases e
def oAll : List D → Option D
  | [.node _ .lst xs] => (blsD xs).map fun bs => .bl (bs.all id)
  | _ => none
def oAny : List D → Option D
  | [.node _ .lst xs] => (blsD xs).map fun bs => .bl (bs.any id)
  | _ => none
def oSum : List D → Option D
  | [.node _ .lst xs] => (intsD xs).map fun bs => .int bs.sum
  | _ => none
theorem ok_all : OpOk K (rAll K) oAll := by
  intro F H ds vs frs d Q hs rep e q
  unfold oAll at e
  split at e
  · rw [Option.map_eq_some_iff] at e
    obtain ⟨bs, e1, rfl⟩ := e
    obtain ⟨v, fr, rfl, rfl, h1⟩ := rep.one
    obtain ⟨p, ys, fq, rfl, hp, rl, _⟩ := h1.lst hs
    exact ⟨p, bs, rfl, .inl (.inl (by rw [hp, blsD_rep e1 rl])), same_q hs (.plain rfl) q⟩
  · cases e
theorem ok_sum : OpOk K (rSum K) oSum := by
  intro F H ds vs frs d Q hs rep e q
  unfold oSum at e
  split at e
  · rw [Option.map_eq_some_iff] at e
    obtain ⟨bs, e1, rfl⟩ := e
    obtain ⟨v, fr, rfl, rfl, h1⟩ := rep.one
    obtain ⟨p, ys, fq, rfl, hp, rl, _⟩ := h1.lst hs
    exact ⟨p, bs, rfl, .inl (.inl (by rw [hp, intsD_rep e1 rl])), same_q hs (.plain rfl) q⟩
  · cases e
end
end DL
namespace DL
open PySem PySem.Spec L2
section
variable {X : Cx} {K : PySem.W.Frag}
def rList (K : PySem.W.Frag) : List V → Hp → VK → Prop := fun xs H Q => (∃ p ys, xs = [.ref p] ∧ (SqL K H p ys ∨ SqT K H p ys) ∧ ∀ l, H l = none → Q (.ref l) (upd H l (.lst ys))) ∨
  ∃ (a : Addr) (kvs : List (Key × V)), xs = [.ref a] ∧ Rd H a (.dK kvs) ∧ ∀ p, H p = none → Q (.ref p) (upd H p (.lst (kvs.map fun kv => kV kv.1)))
theorem cr_list (hc : X.calm = true) : CallR X (.type "list") (rList X.K) := callr_or call_list_of (call_listD hc)
def oList : List D → Option D
  | [.node _ .lst xs] => if frzL xs = true then some (.node true .lst xs) else none
  | [.node _ .tup xs] => if frzL xs = true then some (.node true .lst xs) else none
  | [.node _ (.dic ks) _] => some (.node true .lst (ks.map keyV))
  | _ => none
theorem new_own {F H : Hp} {s : Sh} {xs : List D} {vs : List V} {u : HO} {l : Addr} (hs : ∀ a u, F a = some u → Has H a u) (rl : RepL K F H xs vs []) (hl : H l = none) (hi : IsN K s vs u) (ht : s ≠ .tup) :
    Grow F H F (upd H l u) ∧ Rep K F (upd H l u) (.node true s xs) (.ref l) [l] ∧ ∀ a ∈ [l], H a = none ∧ F a = none := by
  refine ⟨Grow.upd hs hl hi.nfz, Rep.mk_own rl (by simp) hi ht, fun a ha => ?_⟩
  rw [List.mem_singleton] at ha
  subst ha
  refine ⟨hl, ?_⟩
  cases q : F a with
  | none => rfl
  | some u => exact absurd hl (hs a u q).ne
theorem keys_rep {F H : Hp} : ∀ ks : List Key, RepL K F H (ks.map keyV) (ks.map kV) []
  | [] => ⟨rfl, rfl⟩
  | k :: ks => by
    have h : Rep K F H (keyV k) (kV k) [] := by
      cases k with
      | inl i => exact .plain rfl
      | inr x => exact .plain rfl
    have := RepL.mk (f1 := []) (f2 := []) (fun a z => by cases z) h (keys_rep ks)
    simpa using this
theorem ok_list : OpOk K (rList K) oList := by
  intro F H ds vs frs d Q hs rep e q
  unfold oList at e
  split at e
  · split at e
    · rename_i hz
      cases e
      obtain ⟨v, fr, rfl, rfl, h1⟩ := rep.one
      obtain ⟨p, ys, fq, rfl, hp, rl, _⟩ := h1.lst hs
      have z := RepL.frz_nil _ _ _ hz rl
      subst z
      refine .inl ⟨p, ys, rfl, .inl (.of hp), fun l hl => ?_⟩
      obtain ⟨g, r, n⟩ := new_own (s := .lst) hs rl hl rfl (by simp)
      exact q F _ _ [l] g r n
    · cases e
  · split at e
    · rename_i hz
      cases e
      obtain ⟨v, fr, rfl, rfl, h1⟩ := rep.one
      obtain ⟨p, ys, fq, rfl, hp, rl, _⟩ := h1.tup hs
      have z := RepL.frz_nil _ _ _ hz rl
      subst z
      refine .inl ⟨p, ys, rfl, .inr (.of hp), fun l hl => ?_⟩
      obtain ⟨g, r, n⟩ := new_own (s := .lst) hs rl hl rfl (by simp)
      exact q F _ _ [l] g r n
    · cases e
  · rename_i o ks xs
    cases e
    obtain ⟨v, fr, rfl, rfl, h1⟩ := rep.one
    obtain ⟨a, u, vs, fq, rfl, h3, ⟨⟨hl, _⟩, rfl⟩, h5, _⟩ := h1.node hs
    refine .inr ⟨a, _, rfl, h3.rd, fun l hl' => ?_⟩
    have e2 : (ks.zip vs).map (fun kv => kV kv.1) = ks.map kV := by
      rw [show (fun kv : Key × V => kV kv.1) = kV ∘ Prod.fst from rfl, ← List.map_map, List.map_fst_zip (by omega)]
    rw [e2]
    obtain ⟨g, r, n⟩ := new_own (K := K) (s := .lst) hs (keys_rep ks) hl' rfl (by simp)
    exact q F _ _ [l] g r n
  · cases e
theorem new_frz {F H : Hp} {s : Sh} {xs : List D} {vs : List V} {u : HO} {l : Addr} (hs : ∀ a u, F a = some u → Has H a u) (rl : RepL K F H xs vs []) (hl : H l = none) (hi : IsN K s vs u) :
    Grow F H (upd F l u) (upd H l u) ∧ Rep K (upd F l u) (upd H l u) (.node false s xs) (.ref l) [] := by
  have g := Grow.updF (o := u) hs hl hi.nfz
  refine ⟨g, ?_⟩
  rw [Rep]
  exact ⟨l, u, vs, rfl, rfl, upd_same, hi, rl.grow g⟩
def tyKD : D → Option TyK
  | .non => some (.bi "NoneType")
  | .bl _ => some (.bi "bool")
  | .int _ => some (.bi "int")
  | .str _ => some (.bi "str")
  | .node _ .lst _ => some (.bi "list")
  | .node _ .tup _ => some (.bi "tuple")
  | .node _ (.dic _) _ => some (.bi "dict")
  | .node _ (.dit _) _ => some (.bi "dict")
  | .node _ (.ins c _) _ => some (.own c)
  | _ => none
def look2 {κ : Type} [DecidableEq κ] (tab : List (κ × Bool)) (k : κ) : Option Bool := match tab with
  | [] => none
  | p :: r => if p.1 = k then some p.2 else look2 r k
theorem look2_mem {κ : Type} [DecidableEq κ] {k : κ} {b : Bool} : ∀ {tab : List (κ × Bool)}, look2 tab k = some b → (k, b) ∈ tab
  | [], h => by cases h
  | p :: r, h => by
    unfold look2 at h
    by_cases z : p.1 = k
    · rw [if_pos z] at h
      cases h
      rw [← z]
      exact List.mem_cons_self ..
    · rw [if_neg z] at h
      exact List.mem_cons_of_mem _ (look2_mem h)
def oIsi (tab : List (TyK × Bool)) : List D → Option D
  | [x] => ((tyKD x).bind (look2 tab)).map .bl
  | _ => none
def rIsi2 (K : PySem.W.Frag) : List V → Hp → VK → Prop := fun xs H Q => rIsi K xs H Q ∨ ∃ (a : Addr) (ob : Obj) (kvs : List (List Key × V)) (c : V) (u : Value) (b : Bool), xs = [.ref a, c] ∧ H a = some (.frz ob (.dT kvs)) ∧ ClsV c u ∧ PySem.W.kitOne K (.type "dict") u = some b ∧ Q (.bl b) H
theorem cr_isi : CallR X (.builtin "isinstance") (rIsi2 X.K) := by
  intro pins s σ H xs us Q I r h
  rcases h with h | ⟨a, ob, kvs, c, u, b, rfl, ea, k, e, q⟩
  · exact call_isi pins s σ H xs us Q I r h
  · obtain ⟨u1, u2, rfl, r1, r2⟩ := vals2 r
    have e2 := k.eq r2
    subst e2
    obtain rfl : u1 = .ref a := r1
    obtain ⟨hs, hgd, hx, es, ep, hdt, hsz, ent⟩ := I.frzT ea
    exact PySem.W.kia_one PySem.W.kitx_dict I.kIn ⟨ob, hgd, hx.1⟩ e (fun z => nomatch z) fun tk => ⟨.bl b, H, I.tok tk, rfl, q⟩
def rIsi1 (K : PySem.W.Frag) (c : V) : List V → Hp → VK → Prop := fun xs H Q => match xs with
  | [x] => rIsi2 K [x, c] H Q
  | _ => False
theorem ok_isi {u : Value} {c : V} {tab : List (TyK × Bool)} (hk : ClsV c u) (ht : isiB K u tab = true) : OpOk K (rIsi1 K c) (oIsi tab) := by
  intro F H ds vs frs d Q hs rep e q
  unfold oIsi at e
  split at e
  case h_2 => cases e
  rename_i x
  obtain ⟨v, f, rfl, rfl, h1⟩ := rep.one
  simp only [Option.map_eq_some_iff, Option.bind_eq_some_iff] at e
  obtain ⟨b, ⟨ty, h3, h4⟩, rfl⟩ := e
  have hm := List.all_eq_true.mp ht _ (look2_mem h4)
  rw [Bool.and_eq_true, decide_eq_true_eq] at hm
  show rIsi2 K [v, c] H Q
  have hq : Q (.bl b) H := same_q hs (.plain rfl) q
  have fin : TyX K H v (ty.val K) → rIsi2 K [v, c] H Q := fun tx => .inl ⟨v, c, _, u, b, rfl, hk, tx, hm.1, hq⟩
  cases x with
  | non => cases h3; cases h1.1; exact fin (.base .non)
  | bl z => cases h3; cases h1.1; exact fin (.base (.bl z))
  | int z => cases h3; cases h1.1; exact fin (.base (.int z))
  | str z => cases h3; cases h1.1; exact fin (.base (.str z))
  | ob _ => cases h3
  | ty _ => cases h3
  | scr _ => cases h3
  | tscr _ _ => cases h3
  | lam _ _ _ => cases h3
  | node o s zs =>
    obtain ⟨a, uu, vs, fq, rfl, h5, h6, h7, _⟩ := h1.node hs
    cases s with
    | lst =>
      cases h3
      have h6' : uu = .lst vs := h6
      subst h6'
      exact fin (.base (.lst (h5.ex rfl)))
    | tup =>
      cases h3
      have h6' : uu = .tup vs := h6
      subst h6'
      exact fin (.base (.tup (h5.ex rfl)))
    | dic ks =>
      cases h3
      obtain ⟨_, rfl⟩ := h6
      rcases h5 with h5 | ⟨⟨oo, h5⟩, _⟩
      · exact fin (.base (.dK h5))
      · exact fin (.fDict h5)
    | dit ks =>
      cases h3
      obtain ⟨_, rfl⟩ := h6
      rcases h5 with h5 | ⟨⟨oo, h5⟩, _⟩
      · exact fin (.base (.dT h5))
      · exact .inr ⟨a, oo, _, c, u, b, rfl, h5, hk, hm.1, hq⟩
    | ins cc fs =>
      cases h3
      obtain ⟨_, dx, rfl⟩ := h6
      have hi : insB K cc = true := hm.2
      unfold insB at hi
      simp only [Bool.and_eq_true, decide_eq_true_eq] at hi
      obtain ⟨i1, i2, i3, i4, i5⟩ := hi
      exact fin (.base (.ins (h5.ex rfl) (He.cls_ok i1) i2 i3 i4 i5))
    | exd _ => cases h3
end
section
variable {X : Cx} {W : WX} {ε : Bool} {k : Kd} {a T : Expr} {fa : FE} {p pos : Pos} {c : V} {u : Value}
theorem de_isi (tab : List (TyK × Bool)) (hm : X.mg "isinstance" = none) (ha : DE X W ε k a fa) (hT : PE X T (tC c)) (hk : ClsV c u) (ht : isiB X.K u tab = true) (hg : Gl X "isinstance" := by rfl) (hv : bootBuiltins "isinstance" = some (.builtin "isinstance") := by decide +kernel)
    (he : starEach [a, T] X.env = (false, eval a X.env) :: starEach [T] X.env := by rfl) (he2 : starEach [T] X.env = (false, eval T X.env) :: starEach [] X.env := by rfl) (hpl : (backTo pos (starEach [T] X.env)).any (·.1) = false := by rfl) :
    DE X W (ε || false) .own (.Call (.Name "isinstance" p) [a, T] [] pos) (fOp (oIsi tab) (aCons fa aNil)) := by
  obtain ⟨t, p1, s1⟩ := ha.ex
  exact ⟨_, pe_callB cr_isi hg hm hv (pa_cons p1 (pa_cons hT pa_nil he2) he) (by decide) (by decide) he hpl, esim_op (asim_cons s1 asim_nil) (ok_isi hk ht) fun σ H Q h => h⟩
theorem de_isiB (n : String) {x : Str} {px : Pos} (tab : List (TyK × Bool)) (hm : X.mg "isinstance" = none) (hmT : X.mg x = none) (ha : DE X W ε k a fa) (ht : isiB X.K (.type n) tab = true) (hgT : Gl X x := by rfl) (hvT : bootBuiltins x = some (.type n) := by decide +kernel) (hnT : x ≠ "__name__" := by decide)
    (hdT : (x == ("__debug__" : Str)) = false := by decide) (hg : Gl X "isinstance" := by rfl) (hv : bootBuiltins "isinstance" = some (.builtin "isinstance") := by decide +kernel)
    (he : starEach [a, .Name x px] X.env = (false, eval a X.env) :: starEach [.Name x px] X.env := by rfl) (he2 : starEach [.Name x px] X.env = (false, eval (.Name x px) X.env) :: starEach [] X.env := by rfl) (hpl : (backTo pos (starEach [.Name x px] X.env)).any (·.1) = false := by rfl) :
    DE X W (ε || false) .own (.Call (.Name "isinstance" p) [a, .Name x px] [] pos) (fOp (oIsi tab) (aCons fa aNil)) :=
  de_isi tab hm ha (pe_bltn (v := .ty n) hgT hmT hvT rfl hnT hdT) (.ty n) ht hg hv he he2 hpl
end
end DL
namespace DL
open PySem PySem.Spec L2
section
variable {X : Cx} {W : WX} {ε : Bool} {k : Kd} {ks : List Kd} {ms : List Nat} {e a b c : Expr} {st : Stmt} {sts : List Stmt} {fa : FA} {pos : Pos}
def fNevS : FS := fun _ => .stuck
theorem ds_never : DS X W ms st fNevS := ⟨_, ps_never, fun _ _ _ _ _ _ _ _ _ h => h.elim⟩
def fPar (fa : FA) (g : Md → List D → Evn → Option Evn) : FS := fun env => (fa env).so fun ds e => optS (g .own ds e)
end
end DL
namespace DL
open PySem PySem.Spec L2
section
variable {X : Cx} {W : WX} {ε : Bool} {k : Kd} {e v1 v2 : Expr} {es : List Expr} {f : FE} {fs : List FE} {pos : Pos}
def fFmt (f : FE) : FE := fun env => (f env).bind fun d e => match d with
  | .str y => if y.length ≤ sizeLine then .ok (.str y) e else .stuck
  | .int i => if i.natAbs.log2 < 1920 then .ok (.str (toString i)) e else .stuck
  | _ => .stuck
inductive DJ (X : Cx) (W : WX) : List Expr → List FE → Prop where
  | nil : DJ X W [] []
  | cons {k : Kd} {e : Expr} {f : FE} {es : List Expr} {fs : List FE} (h : DE X W false k e f) (r : DJ X W es fs) : DJ X W (e :: es) (f :: fs)
def fJs : List FE → Str → FE
  | [], acc => fun env => .ok (.str acc) env
  | f :: fs, acc => fun env => (f env).bind fun d e => match d with
    | .str y => if (acc ++ y).length ≤ sizeLine then fJs fs (acc ++ y) e else .stuck
    | _ => .stuck
end
end DL
namespace DL
open PySem PySem.Spec L2
section
variable {X : Cx} {kk : Nat} {f C : Addr} {fd : FuncData} {ps : List Str} {Fx : List D → Fo} {gG : List Value → List Value → List Value} {gV : List V → List V → List V} {cl : Str}
theorem takes_WF : Takes X WF := fun u s' ⟨a, B, sI, pins, σ, H, cls, d, e, I, nb, up, sky, na, os, ag, w⟩ => w.elim
end
end DL
namespace DL
open PySem PySem.Spec L2 PyProof.Rows
section
variable {prog : Program} {w : World} {A : Around} {E : Value → Shared → Prop} {s : Shared}
theorem tupIter_at {h h' : Heap} {it t : Addr} {i : Nat} (x : IsTupIter h it t i) (e : ∀ o, h.get? it = some o → h'.get? it = some o) : IsTupIter h' it t i := by
  obtain ⟨o, h1, h2, h3⟩ := x
  exact ⟨o, e o h1, h2, h3⟩
theorem tup_at {h h' : Heap} {t : Addr} {items : Array Value} (x : IsTup h t items) (e : ∀ o, h.get? t = some o → h'.get? t = some o) : IsTup h' t items := by
  obtain ⟨o, h1, h2, n, h3⟩ := x
  exact ⟨o, e o h1, h2, n, h3⟩
theorem walks_tup (hh : A.handled = none) (it t : Addr) (items : Array Value) (i0 : Nat) (hi : i0 ≤ items.size) (hne : t ≠ it) :
    WalksS prog w A it [it, t] [it] (fun a b => a = b) (items.size - i0) (fun j v => items[i0 + j]? = some v) (fun j s => IsTupIter s.heap it t (i0 + j) ∧ IsTup s.heap t items) where
  sub := by simp
  grefl := fun _ => rfl
  gtrans := fun a b c h1 h2 => h1.trans h2
  frame := fun i s h' tk st _ k => ⟨tupIter_at st.1 fun o e => k it (by simp) o e, tup_at st.2 fun o e => k t (by simp) o e⟩
  item := fun i s Q E hlt st hQ => by
    have hx : i0 + i < items.size := by omega
    refine next_tuple_item st.1 st.2 (Array.getElem?_eq_getElem hx) fun h' hit' sb => ?_
    exact hQ _ _ (Array.getElem?_eq_getElem hx) ⟨hit', tup_at st.2 fun o e => (sb.2 t hne).trans e⟩ ⟨fun b o hb e => (sb.2 b (by simpa using hb)).trans e, rfl, rfl, rfl, Nat.le_refl _⟩
  done := fun s Q E st hQ => by
    refine next_tuple_end hh st.1 st.2 (Array.getElem?_eq_none (by omega)) fun h' eb => ?_
    exact hQ _ ⟨fun b o hb e => eb b o (by simpa using hb) e, rfl, rfl, rfl, Nat.le_refl _⟩
  self := fun i s Q E st hQ => wpAny_pyIter_tupleiter (by
    obtain ⟨o, h1, h2, h3⟩ := st.1
    exact ⟨o, h1, h2, h3⟩) hQ
theorem unpack_star {t : Addr} {items : Array Value} {i0 : Nat} {Q : List Value → Shared → Prop} (hh : A.handled = none) (ht : IsTup s.heap t items) (hi : i0 ≤ items.size) (hsz : items.size ≤ sizeLine)
    (hQ : ∀ (h1 : Heap) (tk : Nat), (∀ b o, s.heap.get? b = some o → h1.get? b = some o) → Q (items.toList.take i0 ++ [.ref h1.objs.size]) { s with heap := h1.push { cls := .type "list", data := .seq (items.toList.drop i0).toArray }, toks := tk }) :
    wpAny (model prog w) A (unpackItems (.ref t) (i0 + 1) (some i0)) Q E s := by
  have hlt : t ≠ s.heap.objs.size := by obtain ⟨o, ho, _⟩ := ht; exact Nat.ne_of_lt (Heap.lt_size ho)
  unfold unpackItems
  refine wpAny_bind ?_
  · unfold notIterableAtAll
    refine wpAny_bind (wpAny_specialOf ht.typeIs slot_tuple_iter.lookup ?_)
    refine wpAny_pure ?_
    simp only [Bool.false_eq_true, if_false]
    refine wpAny_bind (wpAny_holding (iter_tuple ht ?_))
    refine wpAny_bind (wpAny_holding (draw_tuple hlt i0 0 _ _ ⟨_, Heap.get?_push_size _ rfl, rfl, rfl⟩ (ht.push _) (by omega) fun h₁ hit₁ hs₁ => ?_))
    rw [List.drop_zero, if_neg (by rw [List.length_take, Array.length_toList]; omega)]
    have ht₁ : IsTup h₁ t items := (ht.push _).extBut hs₁.extBut hlt
    rw [Nat.zero_add] at hit₁
    have hI : s.heap.objs.size < h₁.objs.size := by
      obtain ⟨o, e, _⟩ := hit₁
      exact Heap.lt_size e
    have hT : t < h₁.objs.size := by
      obtain ⟨o, e, _⟩ := ht₁
      exact Heap.lt_size e
    refine wpAny_bind (wpAny_holding (wpAny_collect_iter (T := "tuple_iterator") (.inr (.inr (.inr rfl))) (walks_tup (A := A.in1) hh s.heap.objs.size t items i0 hi hlt) (fun i s st => by
      obtain ⟨o, h1, h2, h3⟩ := st.1
      exact ⟨o, h1, h2⟩) ⟨hit₁, ht₁⟩ (fun b hb => by
        rcases List.mem_cons.mp hb with rfl | hb
        · exact hI
        · rcases List.mem_cons.mp hb with rfl | hb
          · exact hT
          · cases hb) (by simp) (fun s' acc mv io => ?_) (by omega)))
    obtain ⟨hp, g, dr, tk, os⟩ := s'
    obtain ⟨m1, m2, m3, m4, m5⟩ := mv
    simp only at m1 m2 m3 m4 m5
    subst m2 m3 m4
    have hacc : acc.toList = items.toList.drop i0 := by
      apply List.ext_getElem?
      intro j
      rw [Array.getElem?_toList, List.getElem?_drop, Array.getElem?_toList]
      by_cases hj : j < acc.size
      · rw [Array.getElem?_eq_getElem hj]
        exact (io.2 j _ (Array.getElem?_eq_getElem hj)).symm
      · rw [Array.getElem?_eq_none (by omega), Array.getElem?_eq_none (by have := io.1; omega)]
    rw [hacc, if_neg (by omega)]
    have hn : (items.toList.drop i0).length - (i0 + 1 - 1 - i0) = (items.toList.drop i0).length := by omega
    rw [hn, List.take_length, List.drop_length]
    refine wpAny_bind (wpAny_newList ?_ (by rw [List.length_drop, Array.length_toList]; omega))
    refine wpAny_pure ?_
    rw [List.append_nil]
    exact hQ hp tk fun b o e => m1 b o (by
      intro z
      have z' : b = s.heap.objs.size := by simpa using z
      rw [z'] at e
      exact absurd (Heap.lt_size e) (Nat.lt_irrefl _)) (by
        have hb : b ≠ s.heap.objs.size := Nat.ne_of_lt (Heap.lt_size e)
        exact (hs₁.2 b hb).trans (Heap.get?_push_of_some _ e))
end
section
variable {X : Cx} {es : List Expr} {e e' : Expr} {t : TG} {u : TGs} {k : Nat} {pos : Pos}
def gStar (K : PySem.W.Frag) (n : Nat) (t : TGs) : TG := fun v σ H Q => ∃ a xs, v = .ref a ∧ SqT K H a xs ∧ n ≤ xs.length ∧ ∀ l, H l = none → t (xs.take n ++ [.ref l]) σ (upd H l (.lst (xs.drop n))) Q
theorem pgs_cons' (h1 : PG X e t) (h2 : PGs X es u) (hs : (assignEach (e' :: es) X.env).map (·.2) = assign e X.env :: (assignEach es X.env).map (·.2)) : PGs X (e' :: es) (gCons t u) := by
  refine ⟨fun pins s σ H vs us Q I r h => ?_⟩
  obtain ⟨v, vr, e1, h⟩ := h
  subst e1
  cases r with
  | cons r rr =>
    rw [hs]
    refine assignInOrder_cons (thn (h1.run pins s σ H _ _ _ I r h) fun _ s1 ⟨σ1, H1, I1, q1⟩ => ?_)
    exact h2.run pins s1 σ1 H1 _ _ Q I1 rr q1
theorem vals_take {xs : List V} {us : List Value} (h : Vals xs us) (n : Nat) : Vals (xs.take n) (us.take n) := by
  induction h generalizing n with
  | nil => simp; exact .nil
  | cons r t ih =>
    cases n with
    | zero => exact .nil
    | succ n => exact .cons r (ih n)
theorem vals_drop {xs : List V} {us : List Value} (h : Vals xs us) (n : Nat) : Vals (xs.drop n) (us.drop n) := by
  induction h generalizing n with
  | nil => simp; exact .nil
  | cons r t ih =>
    cases n with
    | zero => exact .cons r t
    | succ n => exact ih n
theorem pg_star {ts : TGs} {n : Nat} (hc : X.calm = true) (h : PGs X es ts) (hn : (assignEach es X.env).length = n + 1) (hst : (assignEach es X.env).findIdx? (·.1) = some n) : PG X (.Tuple es k pos) (gStar X.K n ts) := by
  refine ⟨fun pins s σ H v u Q I r hw => ?_⟩
  obtain ⟨a, xs, e1, hq, hl, hw⟩ := hw
  subst e1
  cases r
  obtain ⟨its, rv, ht, hz⟩ := I.tuple hq
  have hlen := rv.length
  rw [assign_Tuple]
  refine wpAny_bind (wpAny_standAt ?_)
  unfold unpack
  rw [hn, hst]
  refine wpAny_bind (wpAny_holding (unpack_star (I.ok.hd hc) ht (by simp; omega) (by simp; omega) fun h1 tk hk => ?_))
  have I1 : Inv X pins σ H { s with heap := h1, toks := tk } := I.kept hk
  have I2 := I1.lnew (t' := tk) (vals_drop rv n) (by rw [List.length_drop]; omega)
  refine h.run pins _ σ _ _ _ Q I2 ?_ (hw _ I1.fresh)
  exact (vals_take rv n).append (.cons rfl .nil)
end
def gStarD (n : Nat) (gs : Md → List D → Evn → Option Evn) : Md → D → Evn → Option Evn := fun md d env => match d with
  | .node _ .tup xs => if n ≤ xs.length ∧ frzL xs = true then gs md (xs.take n ++ [.node false .lst (xs.drop n)]) env else none
  | _ => none
section
variable {X : Cx} {ms : List Nat} {es : List Expr} {tg : Expr} {k : Nat} {pos spos : Pos} {g : Md → D → Evn → Option Evn} {gs : Md → List D → Evn → Option Evn}
theorem dgs_star1 (h1 : DG X ms tg g) (hs : (assignEach [.Starred tg spos] X.env).map (·.2) = assign tg X.env :: (assignEach [] X.env).map (·.2) := by rfl) : DGs X ms [.Starred tg spos] (gsCons g gsNil) := by
  obtain ⟨t1, p1, s1⟩ := h1.ex
  refine ⟨_, pgs_cons' p1 pgs_nil hs, ?_⟩
  have := gssim_cons (b2 := true) s1 (gssim_nil (ms := ms))
  exact this
theorem RepL.take {K : PySem.W.Frag} {F H : Hp} : ∀ {xs : List D} {vs : List V} (n : Nat), RepL K F H xs vs [] → RepL K F H (xs.take n) (vs.take n) [] ∧ RepL K F H (xs.drop n) (vs.drop n) []
  | [], vs, n, h => by
    obtain ⟨rfl, _⟩ := h.nil_inv
    simp
    exact ⟨rfl, rfl⟩
  | x :: xs, vs, 0, h => by
    refine ⟨⟨rfl, rfl⟩, ?_⟩
    simpa using h
  | x :: xs, vs, n + 1, h => by
    obtain ⟨v, us, f1, f2, rfl, e, a1, a2, a3⟩ := h.cons_inv
    obtain ⟨rfl, rfl⟩ := List.append_eq_nil_iff.mp e.symm
    obtain ⟨t1, t2⟩ := RepL.take n a3
    exact ⟨RepL.mk (f1 := []) (f2 := []) (fun a z => by cases z) a2 t1, t2⟩
theorem gsim_star {K : PySem.W.Frag} {b : Bool} {n : Nat} {t : TGs} (s : GsSim K b ms t gs) : GSim K b ms (gStar K n t) (gStarD n gs) := by
  intro Z F0 H0 env0 fp0 F H env σ fp v d fr md Q hm e0 r rep vm ⟨env', hg, hq⟩
  unfold gStarD at hg
  split at hg
  · rename_i o xs
    split at hg
    · rename_i hc
      obtain ⟨a, vs, fq, rfl, ha, rl, sb⟩ := rep.tup r.sub
      have z := RepL.frz_nil _ _ _ hc.2 rl
      subst z
      refine ⟨a, vs, rfl, .inl (.of ha), by rw [rl.len]; exact hc.1, fun l hl => ?_⟩
      obtain ⟨t1, t2⟩ := RepL.take n rl
      obtain ⟨g, rn⟩ := new_frz (s := .lst) r.sub t2 hl rfl
      have rl2 : RepL K (upd F l (.lst (vs.drop n))) (upd H l (.lst (vs.drop n))) (xs.take n ++ [.node false .lst (xs.drop n)]) (vs.take n ++ [.ref l]) [] := (t1.grow g).app (.one rn) (fun a ha => by cases ha)
      have r1 := r.grow g
      have vm1 : VMo H0 env0 fp0 Z (upd F l (.lst (vs.drop n))) (upd H l (.lst (vs.drop n))) env fp [] md := by
        cases md with
        | own => exact fun b hb => by cases hb
        | bor m =>
          cases m with
          | none => exact fun b hb => by cases hb
          | some j => exact ⟨vm.1, fun b hb => by cases hb⟩
      have back : ∀ b, upd H l (.lst (vs.drop n)) b = none → H b = none := fun b z => by
        cases q : H b with
        | none => rfl
        | some o => rw [g.keep b o q] at z; cases z
      exact s Z F0 H0 env0 fp0 _ _ env σ fp _ _ [] md Q hm ((e0.trans (ε2 := true) g.ev).mono (fun _ => rfl) fun z => by cases z) r1 rl2 vm1 ⟨env', hg, fun σ' F' H' fp' gr ev r' sa kp => hq σ' F' H' fp' (fun hb => g.trans (gr hb)) ev r' ⟨fun b hb => (sa.1 b hb).imp id fun z => .inr (back b (z.resolve_left (by simp))), sa.2⟩
        ⟨fun b o ho hn hf => kp.keep b o (g.keep b o ho) hn (by simp), fun b hb => kp.dom b (g.dom hb), fun b o u ho => g.nofz b o u (kp.nofz b o u ho), fun j hj => ⟨(kp.bor j hj).1, fun b hb o ho => (kp.bor j hj).2 b hb o (g.keep b o ho)⟩, fun b u hb => kp.sub b u (g.sub b u hb), fun b h1 h2 => by
          cases q : upd F l (.lst (vs.drop n)) b with
          | none => exact back b (kp.new b q h2)
          | some u => exact g.new b h1 (by rw [q]; exact fun z => by cases z)⟩⟩
    · cases hg
  · cases hg
theorem dg_star {n : Nat} {k' : Nat} (hc : X.calm = true) (h : DGs X ms es gs) (hn : (assignEach es X.env).length = n + 1 := by rfl) (hst : (assignEach es X.env).findIdx? (·.1) = some n := by rfl) : DG X ms (.Tuple es k' pos) (gStarD n gs) := by
  obtain ⟨t, p, s⟩ := h.ex
  exact ⟨_, pg_star hc p hn hst, gsim_star s⟩
end
end DL
namespace DL
open PySem PySem.Spec L2
section
variable {P : Program} {w : World} {K : PySem.W.Frag} {mg : Str → Option Value} {base : Heap} {x qual : Str} {params : Arguments} {body : List Stmt} {scope : Scope} {dvs : List V} {kws : List (Str × V)} {f : Addr} {fd : FuncData}
structure CCx (k : Nat) (X : Cx) (W : WX) : Prop where
  tk : Takes X W
  rm : Room k X.A
structure BodyCx (K : PySem.W.Frag) (k : Nat) (X : Cx) (W : WX) : Prop extends CCx k X W where
  hp : PassesOwn (model X.prog X.w) X.A X.env X.xe
theorem def_ok {N ps : List Str} {k : Nat} {kinds : List Bool} {fb : FS} (F : FunD K x qual params body scope dvs kws f fd) (S : FnScope N ps scope) (hl : kinds.length = ps.length)
    (hb : ∀ (cdv : Value) (A : Around) (outer : List Env) (s : Shared) (H : Hp) (E : XK) (W : WX), BodyCx K k (cxOf (L2.CX P w) P w K mg base N qual scope f cdv A outer s H E) W → DSs (cxOf (L2.CX P w) P w K mg base N qual scope f cdv A outer s H E) W (mutIx kinds 0) body fb) :
    FnOk P w K mg base (L2.CX P w) (k + 1) f fd ps (spD K kinds (runF kinds N.length fb)) := by
  have hpl : ps.length ≤ N.length := by
    have := congrArg List.length S.pre
    rw [List.length_take] at this
    omega
  refine F.ok S (fun vs H Q E ⟨F0, ds, frs, hs, rep, hk, _⟩ => by rw [rep.lens.1, ← hk, hl]) fun cdv A outer s H vs Q E hr hsp => ?_
  have tk : Takes (cxOf (L2.CX P w) P w K mg base N qual scope f cdv A outer s H E) (fun cls d _ H => E cls d H) := takes_of rfl rfl rfl rfl
  have hp : PassesOwn (model P w) (cxOf (L2.CX P w) P w K mg base N qual scope f cdv A outer s H E).A (cxOf (L2.CX P w) P w K mg base N qual scope f cdv A outer s H E).env (cxOf (L2.CX P w) P w K mg base N qual scope f cdv A outer s H E).xe := passes_of rfl
  obtain ⟨t, p, sm⟩ := (hb cdv A outer s H E (fun cls d _ H => E cls d H) ⟨⟨tk, hr⟩, hp⟩).ex
  exact ⟨t, p, sim_body (E := E) sm (fun _ _ _ _ h => h) (by omega) hsp⟩
end
end DL
namespace DL
open PySem PySem.Spec L2
structure FC (fa : List He.Fa) (K : PySem.W.Frag) (mg : Str → Option Value) : Prop where
  ok : ∀ (i : Nat) (f : He.Fa), fa[i]? = some f → f.ok K = true
  gl : ∀ x, (He.Fa.glo x).ok K = true → mg x = some (.ref (He.ga K x))
  fr : ∀ x, (He.Fa.free x).ok K = true → mg x = none
  int : ∀ x i, (He.Fa.int x i).ok K = true → ∃ t, mg x = some (.int i t)
  str : ∀ x z, (He.Fa.str x z).ok K = true → ∃ t, mg x = some (.str z t)
section
variable {fa : List He.Fa} {K : PySem.W.Frag} {mg : Str → Option Value}
theorem FC.gl' (c : FC fa K mg) (i : Nat) {x : Str} (h : fa[i]? = some (.glo x) := by rfl) : mg x = some (.ref (He.ga K x)) := c.gl x (c.ok i _ h)
theorem FC.fr' (c : FC fa K mg) (i : Nat) {x : Str} (h : fa[i]? = some (.free x) := by rfl) : mg x = none := c.fr x (c.ok i _ h)
theorem FC.int' (c : FC fa K mg) (i : Nat) {x : Str} {n : Int} (h : fa[i]? = some (.int x n) := by rfl) : ∃ t, mg x = some (.int n t) := c.int x n (c.ok i _ h)
theorem FC.f (c : FC fa K mg) (i : Nat) {f : He.Fa} (h : fa[i]? = some f := by rfl) : f.ok K = true := c.ok i f h
end
section
variable {K : PySem.W.Frag} {x qual : Str} {params : Arguments} {body : List Stmt} {scope : Scope} {dvs : List V} {kws : List (Str × V)} {f : Addr} {fd : FuncData} {ps : List Str} {n : Nat}
structure BOk (K : PySem.W.Frag) (fd : FuncData) (ps : List Str) (n : Nat) (ks : List Str) (ar : List Ar) : Prop where
  ex : ∃ gG gV, KBn K fd ps n ks gG gV ∧ ∀ vs zs : List V, vs.length = n → zs.length = ks.length → gV vs zs = arV ar (vs ++ zs)
def arAll : Nat → Nat → List Ar
  | _, 0 => []
  | i, n + 1 => .arg i :: arAll (i + 1) n
theorem arV_all : ∀ (n i : Nat) (l : List V), l.length = i + n → arV (arAll i n) l = l.drop i
  | 0, i, l, h => by rw [List.drop_eq_nil_of_le (by omega)]; rfl
  | n + 1, i, l, h => by
    rw [List.drop_eq_getElem_cons (by omega)]
    show l.getD i .non :: arV (arAll (i + 1) n) l = _
    rw [arV_all n (i + 1) l (by omega), List.getD_eq_getElem?_getD, List.getElem?_eq_getElem (by omega)]
    rfl
theorem arV_app : ∀ (ar : List Ar) (ar2 : List Ar) (l : List V), arV (ar ++ ar2) l = arV ar l ++ arV ar2 l
  | [], _, _ => rfl
  | .arg i :: r, ar2, l => by show _ :: arV (r ++ ar2) l = _; rw [arV_app r]; rfl
  | .dfl d :: r, ar2, l => by show _ :: arV (r ++ ar2) l = _; rw [arV_app r]; rfl
theorem arV_dfl (l : List V) : ∀ ds : List D, (∀ d ∈ ds, (plainV d).isSome = true) → arV (ds.map .dfl) l = ds.map fun d => (plainV d).getD .non
  | [], _ => rfl
  | d :: ds, h => by
    show _ :: arV (ds.map .dfl) l = _
    rw [arV_dfl l ds fun e he => h e (List.mem_cons_of_mem _ he)]
    rfl
theorem BOk.of {ds : List D} (hb : ∃ us, Vals (ds.map fun d => (plainV d).getD .non) us ∧ Binds K fd ps us) (hn : n + ds.length = ps.length) (hp : ∀ d ∈ ds, (plainV d).isSome = true) : BOk K fd ps n [] (arAll 0 n ++ ds.map .dfl) := by
  obtain ⟨us, r, b⟩ := hb
  have hl : us.length = ds.length := by rw [← r.length, List.length_map]
  refine ⟨fun xs _ => xs ++ us, fun vs _ => vs ++ (ds.map fun d => (plainV d).getD .non), ⟨fun s xs ws X h1 h2 => ?_, fun r1 _ => r1.append r⟩, fun vs zs h1 h2 => ?_⟩
  · have hw : ws = [] := List.length_eq_zero_iff.mp (by simpa using h2)
    subst hw
    have q := b s xs X (by rw [List.length_append, h1, hl]; exact hn)
    simpa using q
  · have hz : zs = [] := List.length_eq_zero_iff.mp (by simpa using h2)
    subst hz
    rw [List.append_nil, arV_app, arV_all n 0 vs (by omega), arV_dfl vs ds hp, List.drop_zero]
theorem BOk.all (F : FunD K x qual params body scope [] kws f fd) (h : ∀ (kV doc pm : Value) (an : Option Addr) (cdv ct : Value) (us : List Value), us.length = ps.length → bindArgs (PySem.W.fnOf x qual params body scope .none kV doc pm an cdv ct) ⟨us, []⟩ = pure (ps.zip us)) :
    BOk K fd ps ps.length [] (arAll 0 ps.length) := by
  have := BOk.of (n := ps.length) (ds := []) ⟨[], .nil, F.bindsN h⟩ rfl (fun d hd => by cases hd)
  simpa using this
end
section
variable {X : Cx} {K : PySem.W.Frag} {W : WX} {ε1 ε2 : Bool} {k1 k2 : Kd} {a b : Expr} {fa fb : FE} {pos : Pos}
def rInD : R2 := fun y x H Q => ∃ a o, x = .ref a ∧ DGet H a y o ∧ Q (.bl o.isSome) H
def rNotInD : R2 := fun y x H Q => ∃ a o, x = .ref a ∧ DGet H a y o ∧ Q (.bl (!o.isSome)) H
theorem op_inD (hu : X.A.units + 1 < cLine) : OpR X (compareOp .In) rInD := by
  intro pins s σ H x y v u Q I rx ry ⟨a, o, ex, g, q⟩
  subst ex
  obtain rfl : u = Value.ref a := ry
  exact d_in hu I g rx fun s' I' => ⟨.bl o.isSome, H, I', rfl, q⟩
theorem op_notInD (hu : X.A.units + 1 < cLine) : OpR X (compareOp .NotIn) rNotInD := by
  intro pins s σ H x y v u Q I rx ry ⟨a, o, ex, g, q⟩
  subst ex
  obtain rfl : u = Value.ref a := ry
  exact d_notIn hu I g rx fun s' I' => ⟨.bl (!o.isSome), H, I', rfl, q⟩
def rInS : R2 := fun x y H Q => ∃ (c : Nat) (z : Str), x = .str ⟨#[c]⟩ ∧ y = .str z ∧ Q (.bl (decide (c ∈ z.cps.toList))) H
def oInAny : List D → Option D := fun ds => match ds with
  | [_, .node _ (.dic _) _] => oDin ds
  | [_, .node _ (.dit _) _] => oDin ds
  | [_, .str _] => oInS ds
  | _ => oIn ds
def oNotInAny : List D → Option D := fun ds => match ds with
  | [_, .node _ (.dic _) _] => oDnot ds
  | [_, .node _ (.dit _) _] => oDnot ds
  | _ => oNotIn ds
theorem l2_imp {r1 r2 : R2} {vs : List V} {H : Hp} {Q : VK} (h : ∀ x y, r1 x y H Q → r2 x y H Q) (x : l2 r1 vs H Q) : l2 r2 vs H Q := by
  match vs, x with
  | [x, y], z => exact h x y z
theorem ok_inAny : OpOk K (l2 fun x y H Q => rIn K false x y H Q ∨ (rInD x y H Q ∨ rInS x y H Q)) oInAny := by
  intro F H ds vs frs d Q hs rep e q
  unfold oInAny at e
  split at e
  · exact l2_imp (fun x y h => .inr (.inl h)) (ok_din F H _ vs frs d Q hs rep e q)
  · exact l2_imp (fun x y h => .inr (.inl h)) (ok_din F H _ vs frs d Q hs rep e q)
  · exact l2_imp (fun x y h => .inr (.inr h)) (ok_inS F H _ vs frs d Q hs rep e q)
  · exact l2_imp (fun x y h => .inl h) (ok_in F H _ vs frs d Q hs rep e q)
theorem ok_notInAny : OpOk K (l2 fun x y H Q => rIn K true x y H Q ∨ rNotInD x y H Q) oNotInAny := by
  intro F H ds vs frs d Q hs rep e q
  unfold oNotInAny at e
  split at e
  · exact l2_imp (fun x y h => .inr h) (ok_dnot F H _ vs frs d Q hs rep e q)
  · exact l2_imp (fun x y h => .inr h) (ok_dnot F H _ vs frs d Q hs rep e q)
  · exact l2_imp (fun x y h => .inl h) (ok_notIn F H _ vs frs d Q hs rep e q)
theorem op_inAny (hu : X.A.units + 1 < cLine) : OpR X (compareOp .In) (fun x y H Q => rIn X.K false x y H Q ∨ (rInD x y H Q ∨ rInS x y H Q)) := fun pins s σ H x y v u Q I rx ry h => by
  rcases h with h | h | h
  · exact op_in_seq pins s σ H x y v u Q I rx ry h
  · exact op_inD hu pins s σ H x y v u Q I rx ry h
  · exact op_in_sign pins s σ H x y v u Q I rx ry h
theorem op_notInAny (hu : X.A.units + 1 < cLine) : OpR X (compareOp .NotIn) (fun x y H Q => rIn X.K true x y H Q ∨ rNotInD x y H Q) := fun pins s σ H x y v u Q I rx ry h => by
  rcases h with h | h
  · exact op_notIn_seq pins s σ H x y v u Q I rx ry h
  · exact op_notInD hu pins s σ H x y v u Q I rx ry h
end
end DL
namespace DL
open PySem PySem.Spec L2
section
variable {X : Cx} {W : WX} {ε ε1 ε2 : Bool} {k : Kd} {e o : Expr} {es : List Expr} {kws : List Keyword} {ks : List Str} {cs cs1 cs2 : List CK} {f : FE} {fa g : FA} {p pos apos kpos : Pos} {x m : Str} {n kk kc : Nat}
variable {kinds : List Bool} {ar : List Ar} {Fx : List D → Fo} {fd : FuncData} {ps : List Str} {fA C : Addr}
theorem dc (c : CCx kc X W) (FO : FnOk X.prog X.w X.K X.mg X.base (L2.CX X.prog X.w) kk fA fd ps (spD X.K kinds Fx)) (hm : X.mg x = some (.ref fA)) (hk : PySem.W.keepIn X.K (.ref fA) = true) (B : BOk X.K fd ps n ks ar) (ha : DAll X W ε n ks cs es kws fa)
    (hle : kk ≤ kc := by first | decide | exact Nat.le_refl _ | omega) (hl : cs.length = n + ks.length := by rfl) (nd : (jsOf cs kinds ar).Nodup := by decide) (hg : Gl X x := by rfl) (hdb : (x == ("__debug__" : Str)) = false := by decide) :
    DE X W (ε || !(jsOf cs kinds ar).isEmpty) .own (.Call (.Name x p) es kws pos) (fCall Fx kinds ar cs fa) := by
  obtain ⟨gG, gV, hb, hv⟩ := B.ex
  exact de_call FO (c.rm.mono hle) hm hk hb c.tk ha hv hl nd hg hdb
end
end DL
namespace DL
open PySem PySem.Spec L2
section
variable {X : Cx} {W : WX} {ε ε1 ε2 : Bool} {k : Kd} {ks : List Kd} {e : Expr} {es : List Expr} {keys : List (Option Expr)} {f : FE} {fa : FA} {pos : Pos} {xs : List Str}
def iRngD (rg : List D → Option (List D)) (fa : FA) : Evn → Rs (Md × List D × Bool) := fun env => (fa env).bind fun ds e1 => match rg ds with
  | some xs => .ok (.own, xs, false) e1
  | none => .stuck
theorem di_rng1 {tg a : Expr} {p : Pos} (hgl : Gl X "range") (hmg : X.mg "range" = none) (ha : DA X W ε ks [a] fa) (hs : starEach [a] X.env = [(false, eval a X.env)] := by rfl) : DI X W ε tg (.Call (.Name "range" p) [a] [] pos) (iRngD rng1D fa) := by
  obtain ⟨t1, p1, s1⟩ := ha.ex
  refine ⟨_, pi_range1 hgl hmg p1 hs, fun Z F H env σ fp Rq r h => s1 Z F H env σ fp _ r (Post.bind h id id fun ds e1 h1 F1 H1 fp1 vs frs ev r1 rep ko => ?_)⟩
  cases q : rng1D ds with
  | none => rw [q] at h1; exact h1.elim
  | some xs =>
    rw [q] at h1
    unfold rng1D at q
    split at q
    · split at q
      · rename_i j hj
        cases q
        obtain ⟨v, ws, f, fs, rfl, rfl, h2, h3⟩ := rep.inv
        obtain ⟨rfl, rfl⟩ := h3.inv0
        obtain rfl : v = .int j := h2.1
        exact ⟨j, rfl, hj.1, hj.2, h1 F1 H1 fp1 (Itr 0 j.toNat) none ev r1 trivial trivial fun Z2 env2 fp2 σ2 hB hg r3 => io_range⟩
      · cases q
    · cases q
def PSim (K : PySem.W.Frag) (W : WX) (ε : Bool) (ks : List Kd) (xs : List Str) (trs : List (TE × TE)) (f : FA) : Prop := ∀ Z F H env σ fp (Q : List (V × V) → Hp → Prop), R K Z F H env σ fp →
  Post K W ε Z F H env σ fp (fun ds env' => ∀ F' H' fp' vs frs, Ev ε F H env fp F' H' env' fp' → R K Z F' H' env' σ fp' → RepA K F' H' ds vs frs → KOks H env fp F' env' fp' ks frs → Q ((xs.map V.str).zip vs) H') (f env) → tPairs trs σ H Q
structure DPs (X : Cx) (W : WX) (ε : Bool) (ks : List Kd) (xs : List Str) (pos : Pos) (keys : List (Option Expr)) (es : List Expr) (f : FA) : Prop where
  ex : ∃ trs, PPs X pos keys es trs ∧ PSim X.K W ε ks xs trs f
theorem dp_nil : DPs X W false [] [] pos [] [] aNil := ⟨[], pps_nil, fun Z F H env σ fp Q r h => h F H fp [] [] (Ev.refl (Z := Z) _ rfl) r trivial trivial⟩
theorem dp_cons {x : Str} {j : Nat} {kp : Pos} (h1 : DE X W ε1 k e f) (h2 : DPs X W ε2 ks xs pos keys es fa) (hp : ε2 = true → ∀ j, k ≠ .bor j := by first | exact fun h => (nomatch h) | exact fun _ j h => (nomatch h)) :
    DPs X W (ε1 || ε2) (k :: ks) (x :: xs) pos (some (.Constant (.str x) j kp) :: keys) (e :: es) (aCons f fa) := by
  obtain ⟨t1, p1, s1⟩ := h1.ex
  obtain ⟨trs, p2, s2⟩ := h2.ex
  refine ⟨_, pps_cons pe_str p1 p2, fun Z F H env σ fp Q r h => ?_⟩
  refine s1 Z F H env σ fp _ r (Post.bind h orL orLF fun d env1 h1 F1 H1 fp1 v fr e1 r1 rep1 k1' => ?_)
  have h1' := Post.seq (a := d) e1 h1
  refine s2 Z F1 H1 env1 σ fp1 _ r1 (Post.bind (ε := ε2) h1' id id fun ds env2 h2 F2 H2 fp2 vs frs e2 r2 rep2 k2' => ?_)
  have hk := KOk.ev e2 rep1 hp k1'
  refine h2 F2 H2 fp2 (v :: vs) (fr :: frs) (e1.trans e2) r2 ⟨hk.1, rep2⟩ ⟨hk.2, fun ko i gg hi hg a h3 h4 => ?_, k2'.rel e1⟩
  subst ko
  have q := KOks.get k2' hi hg a h4
  have nd := Rep.dom d v fr rep1 a h3
  rcases q.1 with z | z
  · exact nd z
  · exact (k1' a h3).2.1 z
def fDic (xs : List Str) (fa : FA) : FE := fun env => (fa env).bind fun ds e => .ok (.node true (.dic (xs.map .inr)) ds) e
theorem merge_new : ∀ {l acc : List (Key × V)}, (l.map (·.1)).Nodup → (∀ p ∈ l, ∀ q ∈ acc, p.1 ≠ q.1) → mergeK acc l = acc ++ l
  | [], acc, _, _ => by simp [mergeK]
  | p :: l, acc, nd, hn => by
    rw [List.map_cons, List.nodup_cons] at nd
    have e1 : putK acc p.1 p.2 = acc ++ [p] := by
      have : valV acc p.1 = none := by
        cases q : valV acc p.1 with
        | none => rfl
        | some v =>
          have h : (acc.any fun kv => decide (kv.1 = p.1)) = true := by rw [valV_any, q]; rfl
          rw [List.any_eq_true] at h
          obtain ⟨r, hr, he⟩ := h
          exact absurd (of_decide_eq_true he).symm (hn p (List.mem_cons_self ..) r hr)
      rw [putK_new _ this]
    show mergeK (putK acc p.1 p.2) l = _
    rw [e1, merge_new nd.2 fun r hr q hq => ?_]
    · simp
    · rcases List.mem_append.mp hq with hq | hq
      · exact hn r (List.mem_cons_of_mem _ hr) q hq
      · rw [List.mem_singleton] at hq
        subst hq
        exact fun z => nd.1 (by rw [← z]; exact List.mem_map_of_mem hr)
theorem nodup_inr : ∀ {xs : List Str}, xs.Nodup → (xs.map (Sum.inr : Str → Key)).Nodup
  | [], _ => List.nodup_nil
  | x :: xs, h => by
    rw [List.nodup_cons] at h
    rw [List.map_cons, List.nodup_cons]
    refine ⟨fun z => ?_, nodup_inr h.2⟩
    obtain ⟨y, hy, e⟩ := List.mem_map.mp z
    cases e
    exact h.1 hy
theorem zip_keys : ∀ (xs : List Str) (vs : List V), (xs.map V.str).zip vs = ((xs.map (Sum.inr : Str → Key)).zip vs).map fun kv => (kV kv.1, kv.2)
  | [], vs => rfl
  | _ :: _, [] => rfl
  | x :: xs, v :: vs => by
    simp only [List.map_cons, List.zip_cons_cons, zip_keys xs vs]
    rfl
theorem de_disp (h : DPs X W ε ks xs pos keys es fa) (hk : ks.all Kd.prot = true := by rfl) (hnd : xs.Nodup := by decide) (hlen : es.length = xs.length := by rfl) (hkl : ks.length = xs.length := by rfl) (h15 : xs.length ≤ 15 := by decide) (hall : keys.all (·.isSome) = true := by rfl) (hl : keys.length = es.length := by rfl) (h0 : keys ≠ [] := by simp) :
    DE X W ε .own (.Dict keys es pos) (fDic xs fa) := by
  obtain ⟨trs, p, s⟩ := h.ex
  refine ⟨_, pe_disp p hall hl h0 (by omega), fun Z F H env σ fp Q r hq => fun pa hpa => ?_⟩
  have g0 := Grow.upd (o := .dK []) r.sub hpa
  have r0 := r.grow g0
  refine s Z F _ env σ fp _ r0 ?_
  have e0 : Ev ε F H env fp F (upd H pa (.dK [])) env fp := g0.ev
  have hq' := Post.seq (a := (0 : Nat)) (ε2 := ε) e0 (by rw [Bool.or_self]; exact hq)
  refine Post.bind hq' id id fun ds e1 h1 F1 H1 fp1 vs frs ev r1 rep ko => ?_
  have no : ¬ OwnA env fp pa := fun z => r.own_dom z hpa
  have hp1 : H1 pa = some (.dK []) := ev.keep pa _ upd_same fun _ => no
  have hF1 : F1 pa = none := by
    have hF0 : F pa = none := by
      cases q : F pa with
      | none => rfl
      | some u => exact absurd hpa (r.sub pa u q).ne
    cases q : F1 pa with
    | none => rfl
    | some u =>
      rcases ev.new pa hF0 (by rw [q]; exact fun z => by cases z) with z | z
      · rw [upd_same] at z; cases z
      · exact absurd z.2 no
  obtain ⟨rl, own⟩ := rep.flat ko hk
  have lens : vs.length = xs.length := by rw [← hkl, ko.len, rep.lens.2, rep.lens.1]
  have nin : pa ∉ frs.flatten := fun z => by
    rcases (own pa z).1 with y | y
    · rw [upd_same] at y; cases y
    · exact no y
  refine ⟨hp1, ((xs.map Sum.inr).zip vs : List (Key × V)), zip_keys xs vs, by rw [List.length_zip, List.length_map, lens, Nat.min_self]; exact h15, ?_⟩
  have hnk := nodup_inr hnd
  rw [merge_new (by rw [List.map_fst_zip (by rw [List.length_map]; omega)]; exact hnk) (fun p _ q hq => by cases hq), List.nil_append]
  have nh : ¬ HoldA e1 fp1 pa := fun ⟨j, hj, hm⟩ => by
    rcases hj with hj | hj
    · rcases ev.own pa ⟨j, hj, hm⟩ with y | y
      · rw [upd_same] at y; cases y
      · exact no y
    · obtain ⟨i, hi, hm'⟩ := ev.lk pa ⟨j, hj, hm⟩
      exact r.hold_dom (.inr hi) hm' hpa
  have nB : ¬ Z.B pa := fun z => r.domB pa z hpa
  have fe : FEv F1 H1 (fun a => a = pa) F1 (upd H1 pa (.dK ((xs.map Sum.inr).zip vs))) := by
    refine ⟨fun a o ho n => by rw [upd_ne n]; exact ho, fun _ _ h => h, fun a h n => absurd h n, fun a ha => ?_, fun a u ha => ?_, nofz_upd rfl⟩
    · by_cases z : a = pa
      · rw [z, upd_same]; exact fun z => by cases z
      · rw [upd_ne z]; exact ha
    · have ne : a ≠ pa := fun z => by rw [z, hF1] at ha; cases ha
      exact (r1.sub a u ha).same fun o ho => by rw [upd_ne ne]; exact ho
  have rF := r1.out fe (fun a ha => by rw [ha]; exact nh) (fun a ha => by rw [ha]; exact nB)
  have back : ∀ a, upd H pa (.dK []) a = none → H a = none := fun a z => by
    cases q : H a with
    | none => rfl
    | some o => rw [g0.keep a o q] at z; cases z
  refine h1 F1 _ fp1 (.ref pa) (pa :: frs.flatten) ⟨fun a o ho n => ?_, fun a u h => ev.sub a u h, fun a x y => (ev.new a x y).imp (back a) id, fun a ha => (ev.own a ha).imp (back a) id, ev.lks, fun a o u ho => g0.nofz a o u (ev.nofz a o u (nofz_upd rfl a o u ho)), fun a ha => fe.dom a (ev.dom a (g0.dom ha)), ev.pure⟩ rF (Rep.mk_own rl nin ⟨⟨by rw [List.length_map, lens], hnk⟩, rfl⟩ (by simp)) fun a ha => ?_
  · have ne : a ≠ pa := fun z => by rw [z, hpa] at ho; cases ho
    rw [upd_ne ne]
    exact ev.keep a o (g0.keep a o ho) n
  · rcases List.mem_cons.mp ha with rfl | ha
    · exact ⟨.inl hpa, fun z => nh (let ⟨j, hj, hm⟩ := z; ⟨j, .inl hj, hm⟩), hF1⟩
    · exact ⟨(own a ha).1.imp (back a) id, (own a ha).2⟩
end
end DL
namespace DL
open PySem PySem.Spec L2 PySem.Calls PyProof.Rows Builtin
section
variable {prog : Program} {w : World} {A : Around} {E : Value → Shared → Prop} {s : Shared} {K : PySem.W.Frag} {x C L f : Addr} {h₀ : Heap} {m : Str → Option Value} {ox : Obj} {od : Option Obj}
end
section
variable {X : Cx} {kk : Nat} {f C : Addr} {fd : FuncData} {ps : List Str} {Fx : List D → Fo} {gG : List Value → List Value → List Value} {gV : List V → List V → List V} {cl : Str}
end
end DL
namespace DL
open PySem PySem.Spec L2
section
variable {X : Cx} {W : WX} {ε : Bool} {k : Kd} {e : Expr} {f : FE} {fd : FuncData} {ps : List Str} {Fx : List D → Fo} {kk kc : Nat} {p pos : Pos}
theorem fnOk_stuck {P : Program} {w : World} {K : PySem.W.Frag} {mg : Str → Option Value} {base : Heap} {f : Addr} {kinds : List Bool} (hl : kinds.length = ps.length) : FnOk P w K mg base (L2.CX P w) kk f fd ps (spD K kinds fun _ => .stuck) :=
  ⟨fun vs H Q E ⟨F, ds, frs, hs, rep, hk, _⟩ => by rw [rep.lens.1, ← hk, hl], fun A outer s H args us vs Q E _ _ _ _ ⟨F, ds, frs, hs, rep, hk, _, h⟩ => h.elim⟩
end
end DL
namespace DL
open PySem PySem.Spec L2
section
variable {X : Cx} {W : WX} {k : Nat}
theorem units1 (c : CCx k X W) : X.A.units + 1 < cLine := by have := c.rm.units; omega
theorem unitsE (c : CCx k X W) : X.A.units + 64 < cLine := by have := c.rm.units; omega
theorem cxB {s : Shared} {H : Hp} {scope : Scope} {cenv : Env} {fp : List Addr} (c : CCx k X W) : CCx k (X.blk s H scope cenv fp) WF := ⟨takes_WF, c.rm⟩
end
end DL
namespace DL
open PySem PySem.Spec L2
def ESim0 (K : PySem.W.Frag) (W : WX) (ε : Bool) (t : TE) (f : FE) : Prop := ∀ Z F H env σ fp Q, R K Z F H env σ fp →
  Post K W ε Z F H env σ fp (fun d env' => ∀ F' H' fp' v fr, Ev ε F H env fp F' H' env' fp' → R K Z F' H' env' σ fp' → Rep K F' H' d v fr → Q v H') (f env) → t σ H Q
structure DE0 (X : Cx) (W : WX) (ε : Bool) (e : Expr) (f : FE) : Prop where
  ex : ∃ t, PE X e t ∧ ESim0 X.K W ε t f
section
variable {X : Cx} {W : WX} {ε ε1 ε2 ε3 : Bool} {k : Kd} {e a b c : Expr} {f fa fb : FE} {g : FT} {p pos : Pos}
end
def scEq : List D → Option Bool
  | [x, y] => (scV x).bind fun v => (scV y).bind fun w => if scal v w = true then some (decide (v = w)) else none
  | _ => none
def oEqF (ds : List D) : Option D := match scEq ds with
  | some b => some (.bl b)
  | none => oEq ds
def oNeF (ds : List D) : Option D := match scEq ds with
  | some b => some (.bl (!b))
  | none => oNe ds
section
variable {K : PySem.W.Frag}
theorem scEq_inv {F H : Hp} {ds : List D} {vs : List V} {frs : List (List Addr)} {b : Bool} (e : scEq ds = some b) (rep : RepA K F H ds vs frs) : ∃ v w, vs = [v, w] ∧ scal v w = true ∧ b = decide (v = w) := by
  unfold scEq at e
  split at e
  · rename_i x y
    simp only [Option.bind_eq_some_iff] at e
    obtain ⟨v, h1, w, h2, h3⟩ := e
    obtain ⟨v', w', f, g1, rfl, rfl, r1, r2⟩ := rep.two
    obtain ⟨rfl, _⟩ := scV_rep h1 r1
    obtain ⟨rfl, _⟩ := scV_rep h2 r2
    split at h3
    · rename_i z
      cases h3
      exact ⟨_, _, rfl, z, rfl⟩
    · cases h3
  · cases e
theorem ok_eqF : OpOk K (l2 fun x y H Q => rEq x y H Q ∨ rEqD K x y H Q) oEqF := by
  intro F H ds vs frs d Q hs rep e q
  unfold oEqF at e
  split at e
  · rename_i b hb
    obtain ⟨v, w, rfl, h1, h2⟩ := scEq_inv hb rep
    cases e
    subst h2
    exact .inl ⟨h1, same_q hs (.plain rfl) q⟩
  · have r := ok_eq F H ds vs frs d Q hs rep e q
    match vs, r with
    | [x, y], r => exact .inr r
theorem ok_neF : OpOk K (l2 fun x y H Q => rNe x y H Q ∨ rNeD K x y H Q) oNeF := by
  intro F H ds vs frs d Q hs rep e q
  unfold oNeF at e
  split at e
  · rename_i b hb
    obtain ⟨v, w, rfl, h1, h2⟩ := scEq_inv hb rep
    cases e
    subst h2
    exact .inl ⟨h1, same_q hs (.plain rfl) q⟩
  · have r := ok_ne F H ds vs frs d Q hs rep e q
    match vs, r with
    | [x, y], r => exact .inr r
theorem op_eqF {X : Cx} (hu : X.A.units + 64 < cLine) : OpR X (compareOp .Eq) (fun x y H Q => rEq x y H Q ∨ rEqD X.K x y H Q) := op_eq.or (op_eqD hu)
theorem op_neF {X : Cx} (hu : X.A.units + 64 < cLine) : OpR X (compareOp .NotEq) (fun x y H Q => rNe x y H Q ∨ rNeD X.K x y H Q) := op_ne.or (op_neD hu)
end
end DL
namespace DL
open PySem PySem.Spec L2
def aConsN (j : Nat) (f : FE) (g : FA) : FA := fun env => (f env).bind fun d e => match e[j]? with
  | some (.bor none _) => (g e).map (d :: ·)
  | _ => .stuck
section
variable {K : PySem.W.Frag} {W : WX} {ε ε1 ε2 : Bool} {j : Nat} {k k1 k2 : Kd} {ks : List Kd} {te : TE} {ta : TA} {f : FE} {g : FA}
end
section
variable {X : Cx} {W : WX} {ε ε1 ε2 : Bool} {j : Nat} {k k1 k2 : Kd} {a b : Expr} {fa fb : FE} {pos : Pos}
end
end DL
namespace DL
open PySem PySem.Spec L2
mutual
def noFz : D → Bool
  | .node o _ xs => o && noFzL xs
  | .scr _ => false
  | .tscr _ _ => false
  | .lam _ _ _ => false
  | _ => true
def noFzL : List D → Bool
  | [] => true
  | d :: ds => noFz d && noFzL ds
end
def zA : List Bool → List D → List D
  | true :: ks, d :: ds => d :: zA ks ds
  | false :: ks, d :: ds => d.fz :: zA ks ds
  | _, ds => ds
def zF (kinds : List Bool) (Fx : List D → Fo) (ds : List D) : Fo := match Fx (zA kinds ds) with
  | .ret d ms => if (noFz d && noFzL ms) = true then .ret d ms else .stuck
  | _ => .stuck
def bareH (H : Hp) (a : Addr) : Option HO := match H a with
  | some (.frz o u) => if isDic u = true then some u else some (.frz o u)
  | o => o
theorem bareH_has {H : Hp} {a : Addr} {u : HO} (h : Has H a u) (n : ∀ o v, u = .frz o v → False) : bareH H a = some u := by
  unfold bareH
  rcases h with h | ⟨⟨o, h⟩, hd⟩
  · rw [h]
    cases u with
    | frz o v => exact (n o v rfl).elim
    | _ => rfl
  · rw [h]
    simp [hd]
def isFrzB : HO → Bool
  | .frz _ u => isDic u
  | _ => false
theorem isFrzB_of {u : HO} (h : isFrzB u = true) : ∃ o v, u = .frz o v := by
  cases u with
  | frz o v => exact ⟨o, v, rfl⟩
  | _ => cases h
noncomputable def plusF (F H : Hp) (S : Addr → Prop) : Hp := fun a => match F a with
  | some u => if isFrzB u = false then some u else @ite _ (S a) (Classical.propDecidable _) (bareH H a) none
  | none => @ite _ (S a) (Classical.propDecidable _) (bareH H a) none
section
variable {K : PySem.W.Frag} {F H F' H' : Hp} {S : Addr → Prop}
theorem plusF_sub {a : Addr} {u : HO} (h : F a = some u) (n : isFrzB u = false) : plusF F H S a = some u := by
  unfold plusF
  rw [h]
  exact if_pos n
theorem plusF_in {a : Addr} (h : ∀ u, F a = some u → isFrzB u = true) (hs : S a) : plusF F H S a = bareH H a := by
  unfold plusF
  cases q : F a with
  | none => exact if_pos hs
  | some u => simp only [h u q]; exact if_pos hs
theorem isN_nofrz {s : Sh} {vs : List V} {u : HO} (h : IsN K s vs u) : ∀ o v, u = .frz o v → False := by
  intro o v e
  subst e
  cases s with
  | tup => cases h
  | lst => cases h
  | dic ks => cases h.2
  | dit ks => cases h.2
  | ins c fs => obtain ⟨_, dx, h⟩ := h; cases h
  | exd fs => cases h.2
theorem notFrz_of {s : Sh} {vs : List V} {u : HO} (h : IsN K s vs u) : isFrzB u = false := by
  cases q : isFrzB u with
  | false => rfl
  | true =>
    obtain ⟨o, v, e⟩ := isFrzB_of q
    exact (isN_nofrz h o v e).elim
theorem has_inj2 {a : Addr} {w u : HO} (h : Has H a w) (h' : Has H a u) (n : isFrzB w = false) (n' : ∀ o v, u = .frz o v → False) : w = u := by
  rcases h with h | ⟨⟨o, h⟩, d⟩
  · rcases h' with h' | ⟨⟨o', h'⟩, d'⟩
    · exact Option.some.inj (h.symm.trans h')
    · rw [h] at h'
      have e := Option.some.inj h'
      subst e
      rw [show isFrzB (HO.frz o' u) = isDic u from rfl, d'] at n
      cases n
  · rcases h' with h' | ⟨⟨o', h'⟩, d'⟩
    · rw [h] at h'
      exact (n' _ _ (Option.some.inj h').symm).elim
    · rw [h] at h'
      cases h'
      rfl
theorem scrO_nf {u : HO} {vs : List V} (h : ScrO u vs) : isFrzB u = false := by
  rcases h with ⟨o, rfl⟩ | rfl <;> rfl
mutual
theorem rep_up (hs : ∀ a u, F a = some u → Has H a u) : ∀ (d : D) (v : V) (fp : List Addr), Rep K F H d v fp → Rep K (plusF F H S) H d v fp
  | .non, v, fp, h => h
  | .bl _, v, fp, h => h
  | .int _, v, fp, h => h
  | .str _, v, fp, h => h
  | .ob _, v, fp, h => h
  | .ty _, v, fp, h => h
  | .scr _, v, fp, h => by
    obtain ⟨a, h1, h2, h3⟩ := h
    exact ⟨a, h1, h2, h3.imp (fun ⟨o, z, zz⟩ => ⟨o, plusF_sub z (scrO_nf zz), zz⟩) id⟩
  | .tscr _ _, v, fp, h => by
    obtain ⟨⟨a, h1, h3⟩, h4⟩ := h
    exact ⟨⟨a, h1, h3.imp (fun ⟨o, z, zz⟩ => ⟨o, plusF_sub z (scrO_nf zz), zz⟩) id⟩, h4.mono (fun b u n z => plusF_sub z (by cases u with | frz o v => exact absurd rfl (n o v) | _ => rfl)) fun b hb u _ hu => hu⟩
  | .lam _ _ _, v, fp, h => ⟨h.1, h.2.1, plusF_sub h.2.2 rfl⟩
  | .node true s xs, v, fp, h => by
    simp only [Rep] at h ⊢
    obtain ⟨a, u, vs, fq, rfl, rfl, h1, h2, h3, h4, h5⟩ := h
    exact ⟨a, u, vs, fq, rfl, rfl, h1, h2, h3, h4, repL_up hs xs vs fq h5⟩
  | .node false s xs, v, fp, h => by
    simp only [Rep] at h ⊢
    obtain ⟨a, u, vs, rfl, rfl, h1, h2, h3⟩ := h
    exact ⟨a, u, vs, rfl, rfl, plusF_sub h1 (notFrz_of h2), h2, repL_up hs xs vs [] h3⟩
theorem repL_up (hs : ∀ a u, F a = some u → Has H a u) : ∀ (ds : List D) (vs : List V) (fp : List Addr), RepL K F H ds vs fp → RepL K (plusF F H S) H ds vs fp
  | [], vs, fp, h => h
  | d :: ds, vs, fp, h => by
    simp only [RepL] at h ⊢
    obtain ⟨v, ws, f1, f2, rfl, rfl, h1, h2, h3⟩ := h
    exact ⟨v, ws, f1, f2, rfl, rfl, h1, rep_up hs d v f1 h2, repL_up hs ds ws f2 h3⟩
end
mutual
theorem rep_plus (hs : ∀ a u, F a = some u → Has H a u) : ∀ (d : D) (v : V) (fp : List Addr), (∀ a ∈ fp, S a) → Rep K F H d v fp → Rep K (plusF F H S) H d.fz v []
  | .non, v, fp, _, h => ⟨h.1, rfl⟩
  | .bl _, v, fp, _, h => ⟨h.1, rfl⟩
  | .int _, v, fp, _, h => ⟨h.1, rfl⟩
  | .str _, v, fp, _, h => ⟨h.1, rfl⟩
  | .ob _, v, fp, _, h => ⟨h.1, rfl⟩
  | .ty _, v, fp, _, h => ⟨h.1, rfl⟩
  | .scr _, v, fp, _, h => by
    obtain ⟨a, h1, h2, h3⟩ := h
    exact ⟨a, h1, rfl, h3.imp (fun ⟨o, z, zz⟩ => ⟨o, plusF_sub z (scrO_nf zz), zz⟩) id⟩
  | .tscr _ _, v, fp, _, h => by
    obtain ⟨⟨a, h1, h3⟩, h4⟩ := h
    exact ⟨a, h1, rfl, h3.imp (fun ⟨o, z, zz⟩ => ⟨o, plusF_sub z (scrO_nf zz), zz⟩) id⟩
  | .lam _ _ _, v, fp, _, h => ⟨h.1, rfl, plusF_sub h.2.2 rfl⟩
  | .node true s xs, v, fp, hS, h => by
    simp only [Rep] at h
    obtain ⟨a, u, vs, fq, rfl, rfl, h1, h2, h3, h4, h5⟩ := h
    have r := repL_plus hs xs vs fq (fun b hb => hS b (List.mem_cons_of_mem _ hb)) h5
    simp only [D.fz, Rep]
    refine ⟨a, u, vs, rfl, by trivial, ?_, h2, r⟩
    by_cases q : ∃ w, F a = some w ∧ isFrzB w = false
    · obtain ⟨w, q1, q2⟩ := q
      rw [plusF_sub q1 q2]
      congr 1
      exact has_inj2 (hs a w q1) h1 q2 (isN_nofrz h2)
    · have q' : ∀ u, F a = some u → isFrzB u = true := fun u hu => by
        cases z : isFrzB u with
        | true => rfl
        | false => exact (q ⟨u, hu, z⟩).elim
      rw [plusF_in q' (hS a (List.mem_cons_self ..))]
      exact bareH_has h1 (isN_nofrz h2)
  | .node false s xs, v, fp, hS, h => by
    simp only [Rep] at h
    obtain ⟨a, u, vs, rfl, rfl, h1, h2, h3⟩ := h
    simp only [D.fz, Rep]
    exact ⟨a, u, vs, rfl, by trivial, plusF_sub h1 (by cases q : isFrzB u with | false => rfl | true => obtain ⟨o, v, e⟩ := isFrzB_of q; exact (isN_nofrz h2 o v e).elim), h2, repL_plus hs xs vs [] (fun b hb => nomatch hb) h3⟩
theorem repL_plus (hs : ∀ a u, F a = some u → Has H a u) : ∀ (ds : List D) (vs : List V) (fp : List Addr), (∀ a ∈ fp, S a) → RepL K F H ds vs fp → RepL K (plusF F H S) H (fzL ds) vs []
  | [], vs, fp, _, h => ⟨h.1, rfl⟩
  | d :: ds, vs, fp, hS, h => by
    simp only [RepL] at h
    obtain ⟨v, ws, f1, f2, rfl, rfl, h1, h2, h3⟩ := h
    simp only [fzL, RepL]
    exact ⟨v, ws, [], [], rfl, by trivial, fun b hb => (nomatch hb), rep_plus hs d v f1 (fun b hb => hS b (List.mem_append_left _ hb)) h2, repL_plus hs ds ws f2 (fun b hb => hS b (List.mem_append_right _ hb)) h3⟩
end
mutual
theorem rep_noFz : ∀ (d : D) (v : V) (fp : List Addr), noFz d = true → Rep K F H d v fp → Rep K F' H d v fp
  | .non, v, fp, _, h => h
  | .bl _, v, fp, _, h => h
  | .int _, v, fp, _, h => h
  | .str _, v, fp, _, h => h
  | .ob _, v, fp, _, h => h
  | .ty _, v, fp, _, h => h
  | .scr _, v, fp, n, h => by cases n
  | .tscr _ _, v, fp, n, h => by cases n
  | .lam _ _ _, v, fp, n, h => by cases n
  | .node true s xs, v, fp, n, h => by
    simp only [noFz, Bool.true_and] at n
    simp only [Rep] at h ⊢
    obtain ⟨a, u, vs, fq, rfl, rfl, h1, h2, h3, h4, h5⟩ := h
    exact ⟨a, u, vs, fq, rfl, rfl, h1, h2, h3, h4, repL_noFz xs vs fq n h5⟩
  | .node false s xs, v, fp, n, h => by
    simp only [noFz, Bool.false_and] at n
    cases n
theorem repL_noFz : ∀ (ds : List D) (vs : List V) (fp : List Addr), noFzL ds = true → RepL K F H ds vs fp → RepL K F' H ds vs fp
  | [], vs, fp, _, h => h
  | d :: ds, vs, fp, n, h => by
    simp only [noFzL, Bool.and_eq_true] at n
    simp only [RepL] at h ⊢
    obtain ⟨v, ws, f1, f2, rfl, rfl, h1, h2, h3⟩ := h
    exact ⟨v, ws, f1, f2, rfl, rfl, h1, rep_noFz d v f1 n.1 h2, repL_noFz ds ws f2 n.2 h3⟩
end
end
end DL
namespace DL
open PySem PySem.Spec L2
def fFz (i : Nat) : FE := fun env => match env[i]? with
  | some (.own d) => .ok d.fz (putE i (.own d.fz) (putE i .dead env))
  | some (.bor _ d) => if d.frz = true then .ok d env else .stuck
  | _ => .stuck
theorem esim_fz {K : PySem.W.Frag} {W : WX} {i : Nat} : ESim K W true .frz (tVar i) (fFz i) := fun Z F H env σ fp Q r hq => by
  have s := r.slot i
  unfold SlotR at s
  unfold fFz at hq
  cases q : env[i]? with
  | none => rw [q] at hq; exact hq.elim
  | some t =>
    rw [q] at s hq
    have hi : i < env.length := (List.getElem?_eq_some_iff.mp q).1
    cases t with
    | dead => exact hq.elim
    | own d =>
      obtain ⟨v, h1, h2⟩ := s
      have ho : isOwn env i := ⟨d, q⟩
      have r1 : R K Z F H (putE i .dead env) σ (fset fp i []) := r.put hi (fun _ _ => rfl) rfl r.pin trivial
      have e1 : Ev true F H env fp F H (putE i .dead env) (fset fp i []) := (Ev.refl (Z := Z) false rfl).put hi (fun d h => by cases h) fun d h => by cases h
      obtain ⟨F', r2, sub, new, rp⟩ := r1.frzV (d := d) (v := v) (fr := fp i) h2 fun a ha => ⟨fun j hj hm => by
        by_cases hji : j = i
        · subst hji
          rw [fset_same] at hm
          cases hm
        · rw [fset_ne hji] at hm
          have hold' : hold env j := by
            rcases hj with z | z
            · exact .inl ((isOwn_put hji).mp z)
            · exact .inr ((isLk_put hji).mp z)
          exact r.sep i j (Ne.symm hji) (.inl ho) hold' a ha hm, ⟨r.sepB i (.inl ho) a ha, r.hF i (.inl ho) a ha⟩, r.nf i ho a ha⟩
      have hi2 : i < (putE i .dead env).length := by rw [putE_length]; exact hi
      have r3 : R K Z F' H (putE i (.own d.fz) (putE i .dead env)) σ (fset (fset fp i []) i []) := r2.put hi2 (fun _ _ => rfl) rfl r2.pin ⟨⟨v, h1, rp⟩, fun _ _ _ a ha => (nomatch ha), fun a ha => nomatch ha⟩
      have e2 : Ev true F H env fp F H (putE i (.own d.fz) (putE i .dead env)) (fset (fset fp i []) i []) := e1.put hi2 (fun _ _ a ha => nomatch ha) fun d h => by cases h
      exact ⟨v, h1, hq F' H _ v [] ⟨e2.keep, sub, fun a h3 h4 => .inr ⟨rfl, i, ho, new a h3 h4⟩, e2.own, e2.lks, e2.nofz, e2.dom, fun z => by cases z⟩ r3 rp rfl⟩
    | bor m d =>
      have key : ∃ v, σ[i]? = some (some v) ∧ Rep K F H d v (fp i) := by
        cases m with
        | none =>
          obtain ⟨v, h1, h2, _⟩ := s
          exact ⟨v, h1, h2⟩
        | some m =>
          obtain ⟨v, h1, h2, _⟩ := s
          exact ⟨v, h1, h2⟩
      obtain ⟨v, h1, h2⟩ := key
      by_cases z : d.frz = true
      · simp only [z] at hq
        have e := Rep.frz_nil d v _ z h2
        rw [e] at h2
        exact ⟨v, h1, hq F H fp v [] (Ev.refl (Z := Z) _ rfl) r h2 rfl⟩
      · simp only [z] at hq
        exact hq.elim
theorem de_fz {X : Cx} {W : WX} (i : Nat) {x : Str} {pos : Pos} (hN : X.N[i]? = some x := by rfl) (hv : Vis X.env.scope x := by first | exact Or.inl rfl | exact Or.inr (Or.inl rfl) | exact Or.inr (Or.inr rfl)) (hd : (x == ("__debug__" : Str)) = false := by decide)
    (hcd : (x == ("__classdict__" : Str)) = false := by decide) : DE X W true .frz (.Name x pos) (fFz i) := ⟨_, pe_var hN hv hd hcd, esim_fz⟩
end DL
namespace DL
open PySem PySem.Spec L2
theorem get_app {α : Type} {l r : List α} {i : Nat} {x : α} (h : l[i]? = some x) : (l ++ r)[i]? = some x := by
  rw [List.getElem?_append_left (List.getElem?_eq_some_iff.mp h).1]
  exact h
theorem FC_of {fa : List He.Fa} {K : PySem.W.Frag} {h : Heap} {mg : Str → Option Value} (X : K.In h) (G : h.Ns mainGlobals mg) (ok : ∀ (i : Nat) (f : He.Fa), fa[i]? = some f → f.ok K = true) : FC fa K mg :=
  ⟨ok, fun x e => He.glo_ok X G e, fun x e => He.free_ok X G e, fun x i e => He.int_ok X G e, fun x z e => He.str_ok X G e⟩
theorem cx_false {P : Program} {w : World} {o : List Env} {H : Hp} {s : Shared} {e : Value} {s' : Shared} (z : L2.CX P w o H s (fun _ _ _ => False) e s') : False := by
  obtain ⟨_, _, _, _, _, _, _, _, _, _, _, _, z⟩ := z
  exact z
def CXw (P : Program) : CXT := fun o H s E e s' => ∃ w : World, L2.CX P w o H s E e s'
theorem cxw_false {P : Program} {o : List Env} {H : Hp} {s : Shared} {e : Value} {s' : Shared} (z : CXw P o H s (fun _ _ _ => False) e s') : False := by
  obtain ⟨w, z⟩ := z
  exact cx_false z
theorem fnOk_w {P : Program} {w : World} {K : PySem.W.Frag} {mg : Str → Option Value} {base : Heap} {k : Nat} {f : Addr} {fd : FuncData} {ps : List Str} {sp : Sp} (h : FnOk P w K mg base (L2.CX P w) k f fd ps sp) : FnOk P w K mg base (CXw P) k f fd ps sp :=
  ⟨h.len, fun A outer s H args us vs Q E hr he hb hv hs => codeAny_mono (h.run A outer s H args us vs Q E hr he hb hv hs) fun r s' z => by
    cases r with
    | ok fl => cases fl <;> exact z
    | error e => exact ⟨w, z⟩⟩
theorem spD_law {K : PySem.W.Frag} {Fx : List D → Fo} {H : Hp} {a : Addr} {ns : List Int} (hO : Only H) (hS : SqL K H a (ns.map V.int)) (h : Fx [.scr ns] = .ret (.bl true) []) : spD K [false] Fx [.ref a] H (fun v _ => v = .bl true) (fun _ _ _ => False) := by
  have post : ∀ (F : Hp) (M : Addr → Prop), FPost K F H [false] [.ref a] M (fun v _ => v = .bl true) (fun _ _ _ => False) (Fx [.scr ns]) := fun F M => by
    rw [h]
    intro F' H' v fr nfs _ rp _ _
    exact rp.1
  rcases hS with hS | hS
  · rcases hS with hS | ⟨o, hS⟩
    · rcases hO a with z | ⟨o, xs, z⟩
      · rw [z] at hS; cases hS
      · rw [z] at hS; cases hS
    · refine ⟨fun b => if b = a then some (.frz o (.lst (ns.map V.int))) else none, [.scr ns], [[]], fun b u hb => ?_, ⟨⟨a, rfl, rfl, .inl ⟨_, if_pos rfl, .inl ⟨o, rfl⟩⟩⟩, trivial⟩, rfl, ⟨fun i j fi fj ne h1 => ?_, fun i fi h1 => ?_, fun i fi h1 => ?_⟩, post _ _⟩
      · dsimp only at hb
        by_cases e : b = a
        · rw [if_pos e] at hb
          cases hb
          rw [e]
          exact .inl hS
        · rw [if_neg e] at hb
          cases hb
      all_goals
        cases i with
        | zero => cases h1
        | succ i => simp at h1
  · refine ⟨fun _ => none, [.scr ns], [[]], fun b u hb => (nomatch hb), ⟨⟨a, rfl, rfl, .inr hS⟩, trivial⟩, rfl, ⟨fun i j fi fj ne h1 => ?_, fun i fi h1 => ?_, fun i fi h1 => ?_⟩, post _ _⟩
    all_goals
      cases i with
      | zero => cases h1
      | succ i => simp at h1
end DL
namespace DL
open PySem PySem.Spec PySem.Calls PyProof.Rows L2 Builtin Builtin.ObjectAttr
inductive XB where
  | ve | le | re | ie
  deriving DecidableEq
def xbT : XB → List Value
  | .ve => [.type "ValueError", .type "Exception", .type "BaseException", .type "object"]
  | .le => [.type "LookupError", .type "Exception", .type "BaseException", .type "object"]
  | .re => [.type "RuntimeError", .type "Exception", .type "BaseException", .type "object"]
  | .ie => [.type "IndexError", .type "LookupError", .type "Exception", .type "BaseException", .type "object"]
def xbN : XB → String
  | .ve => "ValueError.__new__"
  | .le => "LookupError.__new__"
  | .re => "RuntimeError.__new__"
  | .ie => "IndexError.__new__"
structure XC (K : PySem.W.Frag) (C : Addr) (b : XB) : Prop where
  q : PySem.W.excInitIn K C (xbT b) (xbN b) = true
  ov : PySem.W.excOver K C (xbT b) = true
  sa : PySem.W.findIn K (.ref C) "__setattr__" = some (some (.builtin "object.__setattr__"))
  rd : XfC K C
  ty : PySem.W.typeIn K (.ref C) = some (.type "type")
  kp : PySem.W.keepIn K (.ref C) = true
def noF (K : PySem.W.Frag) (C : Addr) (f : Str) : Bool := decide (PySem.W.findIn K (.ref C) f = some none)
theorem XC.raises {X : Cx} {C : Addr} {b : XB} (T : XC X.K C b) : Raises X (.ref C) := raises_own T.rd.exC T.ty
section
variable {X : Cx} {pins : List (Addr × Obj)} {σ : L2.St} {H : Hp} {s : Shared} {a C dx : Addr} {b : XB} {f : Str} {y : V} {u : Value} {fs : List (Str × V)} {Q : Unit → Shared → Prop} {E : Value → Shared → Prop} {A : Around}
end
def tXst (K : PySem.W.Frag) (f : Str) (to te : TE) : TS := fun D_ σ H => te σ H fun y H1 => to σ H1 fun x H2 => ∃ (a C : Addr) (b : XB), x = .ref a ∧ XC K C b ∧ PySem.W.findIn K (.ref C) f = some none ∧
  ((H2 a = some (exo a C none) ∧ ∀ dx, H2 dx = none → dx ≠ a → D_.nx σ (upd (upd H2 dx (exd dx [(f, y)])) a (exo a C (some dx)))) ∨
    ∃ (dx : Addr) (fs : List (Str × V)), H2 a = some (exo a C (some dx)) ∧ H2 dx = some (exd dx fs) ∧ fs.length ≤ 900 ∧ D_.nx σ (upd H2 dx (exd dx ((f, y) :: fs))))
inductive XSrc where
  | c (x : Str) | p (j : Nat)
def XSrc.val (vs : List V) : XSrc → V
  | .c x => .str x
  | .p j => vs.getD j .non
def xvals (l : List (Str × XSrc)) (vs : List V) : List (Str × V) := l.map fun q => (q.1, q.2.val vs)
def spXi (n : Nat) (C : Addr) (l : List (Str × XSrc)) : Sp := fun vs H Q _ => ∃ (a : Addr) (ws : List V), vs = .ref a :: ws ∧ ws.length = n ∧ H a = some (exo a C none) ∧
  ∀ H' dx, H dx = none → dx ≠ a → H' a = some (exo a C (some dx)) → H' dx = some (exd dx (xvals l ws)) → (∀ b, b ≠ a → b ≠ dx → H' b = H b) → Q .non H'
end DL
namespace DL
open PySem PySem.Spec PySem.Calls PyProof.Rows L2
structure XT (X : Cx) (t : Expr) (cs : List Value) : Prop where
  run : ∀ (a : Addr) (pn : List (Addr × Obj)) (σ : L2.St) (H : Hp) (s : Shared) (cls : Value) (b : Bool) (Q : Bool → Shared → Prop) (E : Value → Shared → Prop), Inv (X.suite a pn) [] σ H s → PySem.W.Looks (model X.prog X.w) s.heap (typeOf (.ref a)) cls → PySem.W.exmAny X.K cls cs = some b →
    (∀ h', (∀ q o, s.heap.get? q = some o → h'.get? q = some o) → Q b { s with heap := h' }) → wpAny (model X.prog X.w) (X.A.mark (some (.ref a))) (eval t X.env) (fun c s1 => wpAny (model X.prog X.w) (X.A.mark (some (.ref a))) (excMatches (.ref a) c) Q E s1) E s
section
variable {X : Cx} {x x1 x2 x3 : Str} {c c1 c2 c3 : Value} {p p1 p2 p3 pos : Pos} {kk : Nat}
theorem names_ld {a : Addr} {pn : List (Addr × Obj)} {σ : L2.St} {H : Hp} {s : Shared} {Q : Value → Shared → Prop} {E : Value → Shared → Prop} (n : Names X x c) (I : Inv (X.suite a pn) [] σ H s) (q : Q c s) : wpAny (model X.prog X.w) (X.A.mark (some (.ref a))) (eval (.Name x p) X.env) Q E s := by
  obtain ⟨g, d, m | ⟨m, v, e⟩⟩ := n
  · exact ld_glob (X := X.suite a pn) I g m q d
  · exact ld_blt (X := X.suite a pn) I g m v q e d
theorem XT.one (n : Names X x c) : XT X (.Name x p) [c] := ⟨fun a pn σ H s cls b Q E I L e q => by
  obtain ⟨b1, d1, e1, e2, rfl⟩ := PySem.W.exmAny_cons e
  cases e2
  rw [Bool.or_false] at q
  exact names_ld n I ((PySem.W.exm_one (M := model X.prog X.w) I.kIn L e1).here (q s.heap fun _ _ z => z))⟩
theorem XT.two (n1 : Names X x1 c1) (n2 : Names X x2 c2) : XT X (.Tuple [.Name x1 p1, .Name x2 p2] kk pos) [c1, c2] := ⟨fun a pn σ H s cls b Q E I L e q => by
  refine wpAny_Tuple (wpAny_items_cons (names_ld n1 I (wpAny_items_cons (names_ld n2 I (wpAny_items_nil ⟨by size_fits, ?_⟩)))))
  have up : ∀ q o, s.heap.get? q = some o → (s.heap.push { cls := .type "tuple", data := .seq [c1, c2].toArray }).get? q = some o := fun _ _ z => Heap.get?_push_of_some _ z
  exact (PySem.W.exm_tup2 (I.kIn.keeps up) (L.keeps up) (Heap.get?_push_size s.heap rfl) e).here (q _ up)⟩
end
structure HE where
  cs : List Value
  nm : Option Nat
  ts : Addr → Value → Option Addr → TS
inductive HdsG (X : Cx) : List ExceptHandler → List HE → Prop
  | nil : HdsG X [] []
  | plain {t : Expr} {cs : List Value} {ts : Addr → Value → Option Addr → TS} {b₀ : Stmt} {suite : List Stmt} {pos' : Pos} {hds : List ExceptHandler} {l : List HE} (hc : XT X t cs)
      (hsu : ∀ (a : Addr) (oe : Obj) (cls : Value) (d : Option Addr) (pn : List (Addr × Obj)), Zc cls d oe → (∃ vs, oe.data = .fields vs) → PSs (X.suite a ((a, oe) :: pn)) (b₀ :: suite) (ts a cls d)) (r : HdsG X hds l) :
      HdsG X (.ExceptHandler (some t) none (b₀ :: suite) pos' :: hds) (⟨cs, none, ts⟩ :: l)
  | named {t : Expr} {cs : List Value} {i : Nat} {n : Str} {ts : Addr → Value → Option Addr → TS} {b₀ : Stmt} {suite : List Stmt} {pos' : Pos} {hds : List ExceptHandler} {l : List HE} (hc : XT X t cs) (hN : X.N.Nodup) (hi : X.N[i]? = some n) (hk : X.env.kindOf n = some .local)
      (hsu : ∀ (a : Addr) (oe : Obj) (cls : Value) (d : Option Addr) (pn : List (Addr × Obj)), Zc cls d oe → (∃ vs, oe.data = .fields vs) → PSs (X.suite a ((a, oe) :: pn)) (b₀ :: suite) (ts a cls d)) (r : HdsG X hds l) :
      HdsG X (.ExceptHandler (some t) (some n) (b₀ :: suite) pos' :: hds) (⟨cs, some i, ts⟩ :: l)
section
variable {X : Cx} {body : List Stmt} {h₀ : ExceptHandler} {hds : List ExceptHandler} {l : List HE} {pos : Pos} {tb : WX → TS} {Wout : WX}
end
end DL
namespace DL
open PySem PySem.Spec L2
def XSrc.te : XSrc → TE
  | .c x => tC (.str x)
  | .p j => tVar (j + 1)
inductive XiOk (X : Cx) : List Stmt → List (Str × XSrc) → Prop
  | one {st : Stmt} {f : Str} {s : XSrc} (h : PS X st (tXst X.K f (tVar 0) s.te)) : XiOk X [st] [(f, s)]
  | cons {st : Stmt} {f : Str} {s : XSrc} {sts : List Stmt} {l : List (Str × XSrc)} (h : PS X st (tXst X.K f (tVar 0) s.te)) (r : XiOk X sts l) : XiOk X (st :: sts) ((f, s) :: l)
def XSrc.lt (n : Nat) : XSrc → Bool
  | .c _ => true
  | .p j => decide (j < n)
structure XMk (P : Program) (w : World) (K : PySem.W.Frag) (mg : Str → Option Value) (base : Heap) (c : Str) (n : Nat) (l : List (Str × XSrc)) : Prop where
  ex : ∃ (b : XB) (fd : FuncData) (ps : List Str), XC K (He.ga K c) b ∧ PySem.W.findIn K (.ref (He.ga K c)) "__init__" = some (some (.ref (He.ma K (He.ga K c) "__init__"))) ∧ PySem.W.typeIn K (.ref (He.ma K (He.ga K c) "__init__")) = some (.type "function") ∧
    FnOk P w K mg base (L2.CX P w) 1 (He.ma K (He.ga K c) "__init__") fd ps (spXi n (He.ga K c) l) ∧ L2.Binds K fd ps []
  nz : n ≤ 1000
  sr : (l.all fun q => q.2.lt n) = true
section
variable {X : Cx} {W : WX} {ε : Bool} {ms : List Nat} {c : Str} {n kc : Nat} {l : List (Str × XSrc)} {ks : List Kd} {fa : FA} {p pos pos' : Pos} {e : Expr} {es : List Expr}
end
end DL
namespace DL
open PySem PySem.Spec PyProof.Rows L2 LamX
inductive LamStep (P : Addr) (q : Str) (H : Hp) (ps : Array Value) : Hp → Addr → Prop
  | hit {c : Addr} (pos : Pos) (h : codeAmong pos ps.toList = some (.ref c)) : LamStep P q H ps H c
  | new {c : Addr} {more : Array Value} (nc : H c = none) (ok : TriplesOk (ps ++ more).toList) (am : ∀ pos cv, codeAmong pos (ps ++ more).toList = some cv → codeAmong pos ps.toList = some cv ∨ cv = .ref c) :
      LamStep P q H ps (upd (upd H P (.tbl (ps ++ more))) c (CodeO c q)) c
section
variable {X : Cx} {pins : List (Addr × Obj)} {σ : L2.St} {H : Hp} {s : Shared}
end
end DL
namespace DL
open PySem PySem.Spec PyProof.Rows L2 LamX
section
variable {X : Cx} {a : Addr} {oe : Obj} {cls : Value} {d : Option Addr} {pn : List (Addr × Obj)}
end
def fldB (K : PySem.W.Frag) (c : Str) (fns : List Str) : Bool := xfB K (He.ga K c) && fns.all fun f => noF K (He.ga K c) f
structure FSuite (X : Cx) (i j : Nat) (suite : List Stmt) (fl : Str → Option (List Str)) (ts : Addr → Value → Option Addr → TS) : Prop where
  ps : ∀ (a : Addr) (oe : Obj) (cls : Value) (d : Option Addr) (pn : List (Addr × Obj)), Zc cls d oe → (∃ vs, oe.data = .fields vs) → PSs (X.suite a ((a, oe) :: pn)) suite (ts a cls d)
  rd : ∀ (D_ : Ends) (σ : L2.St) (H : Hp) (a dd : Addr) (c : Str) (fns : List Str) (fs : List (Str × V)) (vs : List V), fl c = some fns → fldB X.K c fns = true → H dd = some (.xd fs) → (fns.map fun f => fs.lookup f) = vs.map some → vs.length ≤ sizeLine → σ[i]? = some (some (.ref a)) →
    (∀ p, H p = none → D_.nx (σ.set j (some (.ref p))) (upd H p (.tup vs))) → ts a (.ref (He.ga X.K c)) (some dd) D_ σ H
section
variable {X : Cx} {i j : Nat} {fns fns2 : List Str} {es es2 : List Expr} {k' k2' : Nat} {n x C : Str} {p' pos pos2 pos3 : Pos}
end
inductive FHs (X : Cx) (i j : Nat) : List ExceptHandler → List (List Str × (Str → Option (List Str))) → Prop
  | nil : FHs X i j [] []
  | cons {t : Expr} {cs : List Str} {n : Str} {fl : Str → Option (List Str)} {ts : Addr → Value → Option Addr → TS} {b₀ : Stmt} {suite : List Stmt} {pos' : Pos} {hds : List ExceptHandler} {l : List (List Str × (Str → Option (List Str)))}
      (hc : XT X t (cs.map fun y => .ref (He.ga X.K y))) (hN : X.N.Nodup) (hi : X.N[i]? = some n) (hk : X.env.kindOf n = some .local) (hs : FSuite X i j (b₀ :: suite) fl ts) (r : FHs X i j hds l) : FHs X i j (.ExceptHandler (some t) (some n) (b₀ :: suite) pos' :: hds) ((cs, fl) :: l)
end DL
namespace DL
open PySem PySem.Spec PyProof.Rows L2 LamX
section
variable {P : Program} {w : World} {K : PySem.W.Frag} {mg : Str → Option Value} {base : Heap} {x qual : Str} {params : Arguments} {body : List Stmt} {scope : Scope} {dvs : List V} {kws : List (Str × V)} {f : Addr} {fd : FuncData}
end
end DL
namespace DL
open PySem PySem.Spec PyProof.Rows L2 LamX
end DL
namespace DL
open PySem PySem.Spec PyProof.Rows L2
end DL
namespace DL
open PySem PySem.W PySem.Calls PyProof.Rows HandSHeadRun
theorem map_two {α β γ δ : Type _} {x : Option α} {f : α → β} {g : α → γ} {h : α → δ} {b : β} {c : γ} {d : δ} (h1 : x.map (fun s => (f s, g s)) = some (b, c)) (h2 : x.map h = some d) : x.map (fun s => (f s, g s, h s)) = some (b, c, d) := by
  cases x with
  | none => cases h1
  | some s =>
    have e1 := Option.some.inj h1
    have e2 := Option.some.inj h2
    have e3 : f s = b := congrArg Prod.fst e1
    have e4 : g s = c := congrArg Prod.snd e1
    show some (f s, g s, h s) = some (b, c, d)
    rw [e3, e4, e2]
theorem run_two {r : OpenRow} {q : Program} {H : Hook} {ob : SharedT → H.α} {M : Nat} {loose : List PySem.Str} {w : World} (h1 : RunA r q M loose w) (h2 : RunB r H ob M w) : RunEq r q H ob M loose w :=
  fun os => map_two (h1 os) (h2 os)
end DL
namespace DL
open PySem PySem.Spec L2
section
variable {X : Cx} {K : PySem.W.Frag} {W : WX} {ε : Bool} {k : Kd} {F H F1 H1 : Hp} {env env1 : Evn} {fp fp1 : Fp} {Z : Zst} {σ σ1 : L2.St}
end
end DL
namespace DL
open PySem PySem.Spec L2
section
variable {X : Cx} {W : WX} {ε : Bool} {i : Nat} {o e : Expr} {p : FP} {fe : FE} {cpos apos : Pos} {k : Kd}
end
end DL
namespace DL
open PySem PySem.Spec L2
def isDic2 : D → Bool
  | .node _ (.dic _) _ => true
  | .node _ (.dit _) _ => true
  | _ => false
def oGet2 (d : D) : List D → Option D
  | [k, x] => (dget d k).bind fun o => if (o.getD x).frz = true then some (o.getD x) else none
  | _ => none
def fGet2 (f : FE) (g : FA) : FE := fun env => (f env).bind fun d e => if isDic2 d = true then (g e).bind fun ds e2 => optR (oGet2 d ds) e2 else .stuck
section
variable {K : PySem.W.Frag} {W : WX} {ε1 ε2 : Bool} {k : Kd} {ks : List Kd}
theorem dic2_is {F H : Hp} {d : D} {v : V} {fr : List Addr} (hs : ∀ a u, F a = some u → Has H a u) (h : Rep K F H d v fr) (z : isDic2 d = true) : ∃ a, v = .ref a ∧ IsD H a := by
  unfold isDic2 at z
  split at z
  · obtain ⟨a, u, vs, fq, rfl, h3, h4, h5, h6⟩ := h.node hs
    obtain ⟨hl, rfl⟩ := h4
    exact ⟨a, rfl, .inl ⟨_, h3.rd⟩⟩
  · obtain ⟨a, u, vs, fq, rfl, h3, h4, h5, h6⟩ := h.node hs
    obtain ⟨hl, rfl⟩ := h4
    exact ⟨a, rfl, .inr ⟨_, h3.rd⟩⟩
  · cases z
theorem esim_get2 {td ty tx : TE} {f : FE} {g : FA} (hd : ESim K W ε1 k td f) (ha : ASim K W ε2 ks (tCons ty (tCons tx tNil)) g) (hp : ε2 = true → ∀ j, k ≠ .bor j) : ESim K W (ε1 || ε2) .own (tDGet2 td ty tx) (fGet2 f g) := by
  intro Z F H env σ fp Q r h
  refine hd Z F H env σ fp _ r (Post.bind h orL orLF fun d env1 h1 F1 H1 fp1 v fr e1 r1 rep1 k1' => ?_)
  split at h1
  case isFalse => exact h1.elim
  rename_i hi
  obtain ⟨a, rfl, isd⟩ := dic2_is r1.sub rep1 hi
  refine ⟨a, rfl, isd, ?_⟩
  have h1' := Post.seq (a := d) e1 h1
  show (tCons ty (tCons tx tNil)) σ H1 (fun vs H3 => match vs with
    | [y, z] => ∃ o, DGet H3 a y o ∧ Q (o.getD z) H3
    | _ => False)
  refine ha Z F1 H1 env1 σ fp1 _ r1 (Post.bind (ε := ε2) h1' id id fun ds env2 h2 F2 H2 fp2 vs frs e2 r2 rep2 c2 => ?_)
  have hk := (KOk.ev e2 rep1 hp k1').1
  unfold oGet2 at h2
  split at h2
  · rename_i kd xd
    cases q : dget d kd with
    | none => rw [q] at h2; exact h2.elim
    | some o =>
      rw [q, Option.bind_some] at h2
      obtain ⟨y, z, f1, f2, rfl, rfl, h3, h4⟩ := rep2.two
      obtain ⟨a', rr, ea, h5, h6, h7⟩ := dget_rep r2.sub q hk h3
      cases ea
      refine ⟨rr, h5, ?_⟩
      by_cases hz : (o.getD xd).frz = true
      · rw [if_pos hz] at h2
        have fin : ∀ (u : V) (fq : List Addr), Rep K F2 H2 (o.getD xd) u fq → Q u H2 := fun u fq rp => by
          obtain rfl := Rep.frz_nil _ u fq hz rp
          exact h2 F2 H2 fp2 u [] (e1.trans e2) r2 rp fun b z => nomatch z
        cases o with
        | none =>
          rw [h6 rfl]
          exact fin z f2 h4
        | some d2 =>
          obtain ⟨u, fq, rfl, h8, _⟩ := h7 d2 rfl
          exact fin u fq h8
      · rw [if_neg hz] at h2
        exact h2.elim
  · exact h2.elim
end
section
variable {X : Cx} {W : WX} {ε1 ε2 ε3 : Bool} {k1 k2 k3 : Kd} {o e f : Expr} {fo fe ff : FE} {apos cpos : Pos}
theorem de_get2 (hu : X.A.units + 1 < cLine) (ho : DE X W ε1 k1 o fo) (he : DE X W ε2 k2 e fe) (hf : DE X W ε3 k3 f ff)
    (hp : ε3 = true → ∀ j, k2 ≠ .bor j := by first | exact fun h => (nomatch h) | exact fun _ j h => (nomatch h)) (hp2 : (ε2 || (ε3 || false)) = true → ∀ j, k1 ≠ .bor j := by first | exact fun h => (nomatch h) | exact fun _ j h => (nomatch h))
    (hbase : attributeBase o "get" X.env (eval o X.env) = eval o X.env := by rfl) (hline : (apos.endLine == cpos.line) = true := by rfl)
    (hfew : ((backTo cpos (starEach [e, f] X.env)).all (fun x => !x.1) && (backToKw cpos (keywordEach [] X.env)).all (fun x => x.1.isSome)
      && decide (([e, f] : List Expr).length + ([] : List Keyword).length + (if ([] : List Keyword).isEmpty then 0 else 1) < 30)) = true := by rfl)
    (htr : backTo cpos (starEach [e, f] X.env) = [(false, eval e X.env), (false, eval f X.env)] := by rfl) :
    DE X W (ε1 || (ε2 || (ε3 || false))) .own (.Call (.Attribute o "get" apos) [e, f] [] cpos) (fGet2 fo (aCons fe (aCons ff aNil))) := by
  obtain ⟨t1, p1, s1⟩ := ho.ex
  obtain ⟨t2, p2, s2⟩ := he.ex
  obtain ⟨t3, p3, s3⟩ := hf.ex
  exact ⟨_, pe_dget2 hu p1 p2 p3 ⟨hbase, hfew, hline, htr⟩, esim_get2 s1 (asim_cons s2 (asim_cons s3 asim_nil (fun h => by cases h)) (by simpa using hp)) hp2⟩
end
end DL
namespace DL
open PySem PySem.Spec L2
section
variable {X : Cx} {W : WX} {ε : Bool} {k : Kd} {tg iter kx vx c : Expr} {ifs : List Expr} {scope : Scope} {own : List (Str × Nat)} {pos : Pos} {fI : Evn → Rs (Md × List D × Bool)} {gD : Md → D → Evn → Option Evn} {ft : FT} {fe : FE} {n : Nat} {vs : List Nat} {ms : List Nat}
end
end DL
namespace DL
open PySem PySem.Spec PyProof.Rows L2
theorem kvE_some {e : DictEntry} {k : Str} {i : Int} (h : kvE e = some (k, i)) : ∃ t u, e.key = .str k t ∧ e.val = .int i u := by
  unfold kvE at h
  split at h
  · rename_i k' t i' u e1 e2
    cases h
    exact ⟨t, u, e1, e2⟩
  · cases h
theorem tab_find {z : Str} : ∀ (l : List DictEntry) (kvs : List (Str × Int)), l.map kvE = kvs.map some →
    ∃ r : Option Value, (match l.find? (·.key.isStr z) with
      | some e => some (some e.val)
      | none => if l.any (·.refKey) then none else some none) = some r ∧ (kvs.lookup z = none → r = none) ∧ ∀ i, kvs.lookup z = some i → ∃ t, r = some (.int i t)
  | [], [], _ => ⟨none, rfl, fun _ => rfl, fun i h => by cases h⟩
  | [], _ :: _, h => by cases h
  | _ :: _, [], h => by cases h
  | e :: l, (k, i) :: kvs, h => by
    rw [List.map_cons, List.map_cons] at h
    injection h with h1 h2
    obtain ⟨t, u, e1, e2⟩ := kvE_some h1
    have hr : e.refKey = false := by unfold DictEntry.refKey; rw [e1]
    rw [List.find?_cons, List.lookup_cons, e1]
    show ∃ r : Option Value, (match (match (k == z) with | true => some e | false => l.find? (·.key.isStr z)) with
      | some e => some (some e.val)
      | none => if (e :: l).any (·.refKey) then none else some none) = some r ∧ _
    by_cases q : k = z
    · subst q
      have q1 : (k == k) = true := by simp
      rw [q1]
      refine ⟨some e.val, rfl, ?_, ?_⟩
      · intro z
        cases z
      · intro j hj
        cases hj
        exact ⟨u, by rw [e2]⟩
    · have q1 : (k == z) = false := by simpa using q
      have q2 : (z == k) = false := by simpa using fun w : z = k => q w.symm
      rw [q1, q2]
      obtain ⟨r, r1, r2, r3⟩ := tab_find (z := z) l kvs h2
      refine ⟨r, ?_, r2, r3⟩
      rw [List.any_cons, hr, Bool.false_or]
      exact r1
theorem tabV_ns {K : PySem.W.Frag} {x : Str} {kvs : List (Str × Int)} {z : Str} (h : tabV K x kvs = true) : ∃ r, PySem.W.nsIn K (He.ga K x) z = some r ∧ (kvs.lookup z = none → r = none) ∧ ∀ i, kvs.lookup z = some i → ∃ t, r = some (.int i t) := by
  unfold tabV at h
  split at h
  · rename_i c od es n sl e
    have e2 := of_decide_eq_true h
    unfold PySem.W.nsIn
    rw [e]
    exact tab_find _ _ e2
  · cases h
def tTGet (kvs : List (Str × Int)) (ty tx : TE) : TE := fun σ H Q => ty σ H fun y H2 => tx σ H2 fun z H3 => ∃ s, y = .str s ∧ Q (match kvs.lookup s with
  | some i => .int i
  | none => z) H3
section
variable {X : Cx} {d : Addr} {es : Array DictEntry} {n : Nat}
theorem kd_get2 {pins : List (Addr × Obj)} {σ : L2.St} {H : Hp} {s : Shared} {z : Str} {t : Tok} {r : Option Value} {rv : Value} {Q : Value → Shared → Prop} {E : Value → Shared → Prop} (D : KDict X.K X.w d es n) (I : Inv X pins σ H s) (e : PySem.W.nsIn X.K d z = some r) (h : ∀ s', Inv X pins σ H s' → Q (r.getD rv) s') :
    wpAny (model X.prog X.w) X.A (call (.builtin "dict.get") [.ref d, .str z t, rv]) Q E s :=
  call_meetsIn PySem.F.slot_dict_get (kd_type D I) PySem.F.entry_dict_get (PySem.F.args_dict_get_3 _ _ _) (meets_dict_get_default (PySem.strKind X.prog X.w) d (PySem.strKind_is X.prog X.w z t) D.low rv) ⟨_, PySem.W.mapOf_K (prog := X.prog) I.kIn D.at_ D.lit, by
    rw [PySem.W.find_K D.at_ e]
    exact h _ (I.tok _)⟩
theorem pe_tget2 {x : Str} {e f : Expr} {kvs : List (Str × Int)} {ty tx : TE} {p apos cpos : Pos} (D : KDict X.K X.w (He.ga X.K x) es n) (hv : tabV X.K x kvs = true) (hg : Gl X x) (hm : X.mg x = some (.ref (He.ga X.K x))) (he : PE X e ty) (hf : PE X f tx) (m : M2 X (.Name x p) "get" apos e f cpos) (hd : (x == ("__debug__" : Str)) = false) :
    PE X (.Call (.Attribute (.Name x p) "get" apos) [e, f] [] cpos) (tTGet kvs ty tx) := by
  refine ⟨fun pins s σ H Q I h => ?_⟩
  refine wpAny_Call_method m.base m.few m.line PySem.F.plainAttrs_dict PySem.F.slot_dict_get PySem.F.type_dict_get (ld_glob I hg hm ?_ hd)
  refine ⟨kd_type D I, fun b q => ?_, ?_⟩
  · cases q
    exact ⟨_, I.kIn _ _ D.at_, rfl⟩
  rw [m.trees]
  refine Calls.callWith_builtin rfl (Calls.evalArgs_plain (Calls.spliced_cons (thn (he.run pins s σ H _ I h) fun iv s2 ⟨y, H2, I2, ry, q2⟩ =>
    Calls.spliced_cons (thn (hf.run pins s2 σ H2 _ I2 q2) fun fv s3 ⟨z, H3, I3, rz, sz, ey, q3⟩ => Calls.spliced_nil ?_))))
  subst ey
  obtain ⟨t, rfl⟩ := ry
  obtain ⟨r, er, hn, hi⟩ := tabV_ns hv (z := sz)
  refine kd_get2 D I3 er fun s4 I4 => ?_
  cases q : kvs.lookup sz with
  | none =>
    rw [q] at q3
    rw [hn q]
    exact ⟨z, H3, I4, rz, q3⟩
  | some i =>
    rw [q] at q3
    obtain ⟨u, rfl⟩ := hi i q
    exact ⟨.int i, H3, I4, ⟨u, rfl⟩, q3⟩
end
def oTabGet (kvs : List (Str × Int)) : List D → Option D
  | [.str z, d] => (match kvs.lookup z with
    | some i => some (.int i)
    | none => if d.frz = true then some d else none)
  | _ => none
theorem ok_tget {K : PySem.W.Frag} {kvs : List (Str × Int)} : OpOk K (fun vs H Q => match vs with
    | [y, z] => ∃ s, y = .str s ∧ Q (match kvs.lookup s with
      | some i => .int i
      | none => z) H
    | _ => False) (oTabGet kvs) := by
  intro F H ds vs frs d Q hs rep e q
  unfold oTabGet at e
  split at e
  · rename_i z xd
    obtain ⟨y, w, f, g, rfl, rfl, h1, h2⟩ := rep.two
    obtain rfl : y = .str z := h1.1
    refine ⟨z, rfl, ?_⟩
    cases ql : kvs.lookup z with
    | some i =>
      rw [ql] at e
      cases e
      exact same_q hs (.plain rfl) q
    | none =>
      rw [ql] at e
      simp only at e ⊢
      by_cases hz : xd.frz = true
      · rw [if_pos hz] at e
        cases e
        obtain rfl := Rep.frz_nil _ w g hz h2
        exact same_q hs h2 q
      · rw [if_neg hz] at e
        cases e
  · cases e
section
variable {X : Cx} {W : WX} {ε1 ε2 : Bool} {k1 k2 : Kd} {e f : Expr} {fe ff : FE} {p apos cpos : Pos}
theorem de_tget (x : Str) (kvs : List (Str × Int)) (D : ∃ es n, KDict X.K X.w (He.ga X.K x) es n) (hv : tabV X.K x kvs = true) (hm : X.mg x = some (.ref (He.ga X.K x))) (he : DE X W ε1 k1 e fe) (hf : DE X W ε2 k2 f ff) (hg : Gl X x := by rfl)
    (hp : ε2 = true → ∀ j, k1 ≠ .bor j := by first | exact fun h => (nomatch h) | exact fun _ j h => (nomatch h)) (hd : (x == ("__debug__" : Str)) = false := by decide)
    (hbase : attributeBase (.Name x p) "get" X.env (eval (.Name x p) X.env) = eval (.Name x p) X.env := by rfl) (hline : (apos.endLine == cpos.line) = true := by rfl)
    (hfew : ((backTo cpos (starEach [e, f] X.env)).all (fun x => !x.1) && (backToKw cpos (keywordEach [] X.env)).all (fun x => x.1.isSome)
      && decide (([e, f] : List Expr).length + ([] : List Keyword).length + (if ([] : List Keyword).isEmpty then 0 else 1) < 30)) = true := by rfl)
    (htr : backTo cpos (starEach [e, f] X.env) = [(false, eval e X.env), (false, eval f X.env)] := by rfl) :
    DE X W (ε1 || (ε2 || false)) .own (.Call (.Attribute (.Name x p) "get" apos) [e, f] [] cpos) (fOp (oTabGet kvs) (aCons fe (aCons ff aNil))) := by
  obtain ⟨t2, p2, s2⟩ := he.ex
  obtain ⟨t3, p3, s3⟩ := hf.ex
  obtain ⟨es, n, D⟩ := D
  exact ⟨_, pe_tget2 D hv hg hm p2 p3 ⟨hbase, hfew, hline, htr⟩ hd, esim_op (asim_cons s2 (asim_cons s3 asim_nil (fun h => by cases h)) (by simpa using hp)) ok_tget fun σ H Q h => h⟩
end
end DL
namespace DL
open PySem PySem.Spec L2
section
variable {K : PySem.W.Frag}
end
end DL
namespace DL
open PySem PySem.Spec PyProof.Rows L2
theorem RepL.rep0 {K : PySem.W.Frag} {F H : Hp} {xs : List D} {vs : List V} (h : RepL K F H xs vs []) : ∀ n : Nat, RepL K F H (List.replicate n xs).flatten (List.replicate n vs).flatten []
  | 0 => ⟨rfl, rfl⟩
  | n + 1 => by
    rw [List.replicate_succ, List.replicate_succ, List.flatten_cons, List.flatten_cons]
    exact h.append0 (RepL.rep0 h n)
end DL
namespace DL
open PySem PySem.Spec PyProof.Rows L2 LamX
section
variable {K : PySem.W.Frag} {W : WX} {F H : Hp} {env : Evn} {fp : Fp} {Z : Zst} {D_ : Ends} {i : Nat} {o : So}
end
section
variable {X : Cx} {pins : List (Addr × Obj)} {σ : L2.St} {H : Hp} {s : Shared} {W : WX}
theorem CCx.keep {k : Nat} {pn : List (Addr × Obj)} (c : CCx k X W) : CCx k (X.tr (X.pn ++ pn) X.xe) W :=
  ⟨fun u s' ⟨a, B, sI, pins, σ, H, cls, d, e, I, nb, up, sky, na, os, ag, w⟩ => c.tk u s' ⟨a, B, sI, pn, σ, H, cls, d, e, I.ofTry I.ok.ofTry, nb, up, sky, na, os, ag, w⟩, c.rm⟩
theorem BodyCx.keep {K : PySem.W.Frag} {k : Nat} {pn : List (Addr × Obj)} (c : BodyCx K k X W) : BodyCx K k (X.tr (X.pn ++ pn) X.xe) W := ⟨c.toCCx.keep, c.hp⟩
end
end DL
namespace DL
open PySem PySem.Spec PyProof.Rows L2 LamX
section
variable {X : Cx} {W : WX} {ε : Bool} {kd : Kd} {x y q : Str} {i k kc : Nat} {f c : Addr} {pm ctv : Value} {params : Arguments} {body : Expr} {scope : Scope} {fb : FE} {p p1 p2 py pos : Pos}
end
end DL
namespace DL
open PySem PySem.Spec PyProof.Rows
section
variable (as : (Addr → Option Obj) → List Addr) (fa : List He.Fa) (fn : List He.DefD) (ts : List He.Tab) (tf : List He.Defn) (ex : PySem.W.Frag → Bool)
theorem obsY_eq {g : Addr → Option Obj} {s : Shared} (h : ∀ a, g a = s.heap.get? a) : obsY as fa fn ts tf ex g = (hookY as fa fn ts tf ex).obs s := by
  obtain rfl : g = s.heap.get? := funext h
  rfl
end
end DL
namespace DL
open PySem PySem.Spec L2
def frzS : List Nat → Evn → Evn
  | [], env => env
  | j :: js, env => frzS js (match env[j]? with
    | some (.own d) => putE j (.own d.fz) (putE j .dead env)
    | _ => env)
def fZ (js : List Nat) (fe : FE) : FE := fun env => match fe (frzS js env) with
  | .ok d _ => if noFz d = true then .ok d env else .stuck
  | _ => .stuck
section
variable {K : PySem.W.Frag} {W : WX} {F H : Hp} {env : Evn} {fp : Fp} {Z : Zst} {σ : L2.St}
theorem frz_one (r : R K Z F H env σ fp) {j : Nat} {d : D} (q : env[j]? = some (.own d)) : ∃ (F' : Hp) (fp' : Fp), R K Z F' H (putE j (.own d.fz) (putE j .dead env)) σ fp' ∧ (∀ a u, F a = some u → F' a = some u) ∧ (∀ a, F' a ≠ none → F a = none → a ∈ fp j) ∧ ∀ a, OwnA (putE j (.own d.fz) (putE j .dead env)) fp' a → OwnA env fp a := by
  have s := r.slot j
  unfold SlotR at s
  rw [q] at s
  obtain ⟨v, h1, h2⟩ := s
  have hi : j < env.length := (List.getElem?_eq_some_iff.mp q).1
  have ho : isOwn env j := ⟨d, q⟩
  have r1 : R K Z F H (putE j .dead env) σ (fset fp j []) := r.put hi (fun _ _ => rfl) rfl r.pin trivial
  have e1 : Ev true F H env fp F H (putE j .dead env) (fset fp j []) := (Ev.refl (Z := Z) false rfl).put hi (fun d h => by cases h) fun d h => by cases h
  obtain ⟨F', r2, sub, new, rp⟩ := r1.frzV (d := d) (v := v) (fr := fp j) h2 fun a ha => ⟨fun i hj hm => by
    by_cases hji : i = j
    · subst hji
      rw [fset_same] at hm
      cases hm
    · rw [fset_ne hji] at hm
      have hold' : hold env i := by
        rcases hj with z | z
        · exact .inl ((isOwn_put hji).mp z)
        · exact .inr ((isLk_put hji).mp z)
      exact r.sep j i (Ne.symm hji) (.inl ho) hold' a ha hm, ⟨r.sepB j (.inl ho) a ha, r.hF j (.inl ho) a ha⟩, r.nf j ho a ha⟩
  have hi2 : j < (putE j .dead env).length := by rw [putE_length]; exact hi
  have r3 : R K Z F' H (putE j (.own d.fz) (putE j .dead env)) σ (fset (fset fp j []) j []) := r2.put hi2 (fun _ _ => rfl) rfl r2.pin ⟨⟨v, h1, rp⟩, fun _ _ _ a ha => (nomatch ha), fun a ha => nomatch ha⟩
  have e2 : Ev true F H env fp F H (putE j (.own d.fz) (putE j .dead env)) (fset (fset fp j []) j []) := e1.put hi2 (fun _ _ a ha => nomatch ha) fun d h => by cases h
  refine ⟨F', _, r3, sub, fun a h3 h4 => ?_, fun a ha => ?_⟩
  · cases z : F' a with
    | none => exact absurd z h3
    | some u => exact new a h4 (by rw [z]; exact fun w => by cases w)
  · rcases e2.own a ha with z | z
    · exact absurd z (r3.own_dom ha)
    · exact z
theorem frz_all : ∀ (js : List Nat) {F : Hp} {env : Evn} {fp : Fp}, R K Z F H env σ fp → ∃ (F' : Hp) (fp' : Fp), R K Z F' H (frzS js env) σ fp' ∧ (∀ a u, F a = some u → F' a = some u) ∧ ∀ a, F' a ≠ none → F a = none → OwnA env fp a
  | [], F, env, fp, r => ⟨F, fp, r, fun _ _ h => h, fun a h n => absurd n h⟩
  | j :: js, F, env, fp, r => by
    unfold frzS
    split
    · rename_i d q
      obtain ⟨F1, fp1, r1, s1, n1, o1⟩ := frz_one r q
      obtain ⟨F2, fp2, r2, s2, n2⟩ := frz_all js r1
      refine ⟨F2, fp2, r2, fun a u h => s2 a u (s1 a u h), fun a h n => ?_⟩
      cases z : F1 a with
      | none => exact o1 a (n2 a h z)
      | some u => exact ⟨j, ⟨d, q⟩, n1 a (by rw [z]; exact fun w => by cases w) n⟩
    · exact frz_all js r
theorem esim_z {t : TE} {fe : FE} {js : List Nat} (h : ESim K W false .own t fe) : ESim K W false .own t (fZ js fe) := by
  intro Z F H env σ fp Q r hq
  obtain ⟨F1, fp1, r1, s1, n1⟩ := frz_all js r
  refine h Z F1 H (frzS js env) σ fp1 Q r1 ?_
  unfold fZ at hq
  cases q : fe (frzS js env) with
  | stuck => rw [q] at hq; exact hq.elim
  | exc c x e => rw [q] at hq; exact hq.elim
  | ok d e =>
    rw [q] at hq
    dsimp only at hq
    by_cases hz : noFz d = true
    case neg => rw [if_neg hz] at hq; exact hq.elim
    rw [if_pos hz] at hq
    intro F2 H2 fp2 v fr ev r2 rp ko
    obtain ⟨p1, p2⟩ := ev.pure rfl
    subst p1 p2
    have keep : ∀ a o, H a = some o → H2 a = some o := fun a o ho => ev.keep a o ho fun z => by cases z
    have hS : ∀ a, OwnA env fp a → H a ≠ none := fun a ha => r.own_dom ha
    -- what was fixed for the expression alone is given back
    let F3 : Hp := fun a => @ite _ (OwnA env fp a) (Classical.propDecidable _) none (F2 a)
    have f3 : ∀ a, ¬ OwnA env fp a → F3 a = F2 a := fun a ha => if_neg ha
    have f3o : ∀ a, OwnA env fp a → F3 a = none := fun a ha => if_pos ha
    have g : Grow F H F3 H2 := by
      refine ⟨keep, fun a u h => ?_, fun a h n => ?_, fun a u h => ?_, ev.nofz⟩
      · have na : ¬ OwnA env fp a := fun z => by rw [r.own_F z] at h; cases h
        rw [f3 a na]
        exact ev.sub a u (s1 a u h)
      · by_cases na : OwnA env fp a
        · exact absurd (f3o a na) n
        · rw [f3 a na] at n
          cases z : F1 a with
          | none => exact (ev.new a z n).resolve_right fun w => by cases w.1
          | some u => exact absurd (n1 a (by rw [z]; exact fun w => by cases w) h) na
      · by_cases na : OwnA env fp a
        · rw [f3o a na] at h; cases h
        · rw [f3 a na] at h
          exact r2.sub a u h
    refine hq F3 H2 fp v fr (g.ev (ε := false)) (r.grow g) (rep_noFz d v fr hz rp) fun a ha => ?_
    obtain ⟨k1, k2, k3⟩ := ko a ha
    have hn : H a = none := k1.resolve_right k2
    have na : ¬ OwnA env fp a := fun z => hS a z hn
    exact ⟨.inl hn, na, by rw [f3 a na]; exact k3⟩
end
theorem de_z {X : Cx} {W : WX} {e : Expr} {fe : FE} {js : List Nat} (h : DE X W false .own e fe) : DE X W false .own e (fZ js fe) := by
  obtain ⟨t, p, s⟩ := h.ex
  exact ⟨t, p, esim_z s⟩
end DL
namespace DL
open PySem PySem.Spec PyProof.Rows L2
end DL
namespace DL
open PySem PySem.Spec PyProof.Rows L2
section
variable {K : PySem.W.Frag} {F H : Hp}
end
section
variable {X : Cx} {W : WX} {ε : Bool} {i : Nat} {o e : Expr} {p : FP} {fe : FE} {cpos apos : Pos} {k : Kd}
end
end DL
namespace DL
open PySem PySem.Spec PyProof.Rows L2
section
variable {X : Cx} {kk : Nat} {f C : Addr} {fd : FuncData} {ps : List Str} {Fx : List D → Fo} {gG : List Value → List Value → List Value} {gV : List V → List V → List V} {cl : Str}
end
section
variable {X : Cx} {W : WX} {ε1 ε2 : Bool} {k1 k2 : Kd} {a b : Expr} {fa fb : FE} {fd : FuncData} {ps : List Str} {Fx : List D → Fo} {kk kc : Nat} {p pos : Pos}
end
end DL
namespace DL
open PySem PySem.Spec PyProof.Rows L2 LamX
section
variable {X : Cx} {i j : Nat} {fns : List Str} {es : List Expr} {e2 : Expr} {k' : Nat} {n x c C : Str} {p' pos pos2 p1 p2 p3 p4 p6 : Pos}
end
end DL
namespace DL
open PySem PySem.Spec L2
section
variable {K : PySem.W.Frag} {W : WX} {F H : Hp} {env : Evn} {fp : Fp} {Z : Zst} {D_ : Ends} {i : Nat} {o : So} {σ : L2.St}
end
section
variable {X : Cx} {W : WX} {ε : Bool} {k : Kd} {ms : List Nat} {e : Expr} {sts : List Stmt} {f : FS} {fe : FE}
def fFrE (f : FE) : FE := fun env => (f env).bind fun d e => .ok d.fz e
theorem esim_frE {K : PySem.W.Frag} {t : TE} (h : ESim K W ε .own t fe) : ESim K W true .frz t (fFrE fe) := by
  intro Z F H env σ fp Q r hq
  refine h Z F H env σ fp Q r (Post.bind hq (fun _ => rfl) (fun z => by cases z) fun d e1 h1 F1 H1 fp1 v fr ev r1 rp ko => ?_)
  have ap := r.apart ev ko
  obtain ⟨F', r2, sub, new, rp2⟩ := r1.frzV rp fun a ha => ⟨fun j hj => ap.1 j hj a ha, ap.2 a ha⟩
  refine h1 F' H1 fp1 v [] ⟨fun a o ho n => ev.keep a o ho fun _ => n rfl, fun a u hu => sub a u (ev.sub a u hu), fun a h3 h4 => ?_, ev.own, ev.lks, ev.nofz, ev.dom, fun z => by cases z⟩ r2 rp2 rfl
  by_cases z : F1 a = none
  · rcases (ko a (new a z h4)).1 with q | q
    · exact .inl q
    · exact .inr ⟨rfl, q⟩
  · exact (ev.new a h3 z).imp id fun q => ⟨rfl, q.2⟩
theorem de_frE (h : DE X W ε .own e fe) : DE X W true .frz e (fFrE fe) := let ⟨_, p, s⟩ := h.ex; ⟨_, p, esim_frE s⟩
end
end DL
namespace DL
open PySem PySem.Spec PyProof.Rows L2
section
variable {X : Cx} {σ : L2.St} {kx vx tg iter : Expr} {ifs : List Expr} {scope : Scope} {own : List (Str × Nat)} {pos pos' : Pos} {wi : TI} {g : TG} {tt : TT} {tk tv : TE}
end
section
variable {X : Cx} {W : WX} {ε : Bool} {k : Kd} {tg iter kx vx c : Expr} {ifs : List Expr} {scope : Scope} {own : List (Str × Nat)} {pos : Pos} {fI : Evn → Rs (Md × List D × Bool)} {gD : Md → D → Evn → Option Evn} {ft : FT} {fe : FE} {n : Nat} {vs : List Nat} {ms : List Nat}
end
end DL
namespace DL
open PySem PySem.Spec L2
section
variable {X : Cx} {W : WX} {ε : Bool} {k : Kd} {tg iter elt c : Expr} {ifs : List Expr} {scope : Scope} {own : List (Str × Nat)} {pos : Pos} {fI : Evn → Rs (Md × List D × Bool)} {gD : Md → D → Evn → Option Evn} {ft : FT} {fe : FE} {n : Nat}
theorem comp_simA {K : PySem.W.Frag} {Z2 : Zst} {F1 Hb : Hp} {env2 : Evn} {fp2 : Fp} {σ2 : L2.St} {J : It} {xs : List D} {md : Md} {vs : List Nat} {Dd : Addr} {ds a0 : List D} {v0 : List V} {f0 : List Addr} {QQ : Hp → Prop} (hk : k.prot = true)
    (r0 : R K Z2 F1 Hb env2 σ2 fp2) (io : IOk K Z2 F1 Hb env2 fp2 J xs md) (hrb : rootB md env2 = true) (hD : Hb Dd = none) (rep0 : RepL K F1 Hb a0 v0 f0) (nD0 : Dd ∉ f0) (hf0 : ∀ b ∈ f0, F1 b = none) (hpin : ∀ p ∈ Z2.pins, p.1 ∈ msB n vs) (hpins : ∀ j, j ∉ vs → j < Z2.n → ∃ v, (j, v) ∈ Z2.pins) (hσ : ∀ j ∈ vs, j < Z2.n → σ2[j]? = some none)
    (hc : compD (gChk md gD) ft fe env2 xs = some ds) (hl : (a0 ++ ds).length ≤ sizeLine)
    (hq : ∀ F H vals facc, Grow F1 Hb F H → H Dd = some (.lst vals) → F Dd = none → RepL K F H (a0 ++ ds) vals facc → Dd ∉ facc → (∀ b ∈ facc, (b ∈ f0 ∨ Hb b = none) ∧ F b = none) → QQ H) :
    ∃ W : Nat → Nat → Hp → Prop, (∃ m, W 0 m (upd Hb Dd (.lst v0))) ∧ ∀ i m H, W i m H →
      (J.stop i H ∧ QQ H) ∨ (J.go i H ∧ ∃ Nx : Hp → Prop, (∀ H', Nx H' → ∃ m', m' < m ∧ W (i + 1) m' H') ∧ ∀ x H', J.yld i H x H' → gOfP K (msB n vs) gD x σ2 H' fun σ3 H3 => wipe σ3 vs = σ2 ∧ tOfT K WF false ft σ3 H3 fun b H4 =>
        if b = true then tOfE K WF false k fe σ3 H4 fun y H5 => ∃ acc, H5 Dd = some (.lst acc) ∧ acc.length < sizeLine ∧ Nx (upd H5 Dd (.lst (acc ++ [y]))) else Nx H4) := by
  have hF0 : F1 Dd = none := by
    cases q : F1 Dd with
    | none => rfl
    | some u => exact absurd hD (r0.sub Dd u q).ne
  let P : Nat → Hp → Prop := fun i H => i ≤ xs.length ∧ ∃ F acc vals facc, Grow F1 Hb F H ∧ H Dd = some (.lst vals) ∧ F Dd = none ∧ RepL K F H acc vals facc ∧ Dd ∉ facc ∧ (∀ b ∈ facc, (b ∈ f0 ∨ Hb b = none) ∧ F b = none) ∧ ∃ rest, compD (gChk md gD) ft fe env2 (xs.drop i) = some rest ∧ acc ++ rest = a0 ++ ds
  refine ⟨fun i m H => m = xs.length - i ∧ P i H, ⟨xs.length, rfl, Nat.zero_le _, F1, a0, v0, f0, Grow.upd r0.sub hD, upd_same, hF0, rep0.at_upd nD0, nD0, fun b hb => ⟨.inl hb, hf0 b hb⟩, ds, hc, rfl⟩, ?_⟩
  rintro i m H ⟨rfl, hi, F, acc, vals, facc, gr, hDl, hFD, rl, nD, hfa, rest, hr, hds⟩
  have r1 := r0.grow gr
  have ev1 : Ev true F1 Hb env2 fp2 F H env2 fp2 := gr.ev
  by_cases hlt : i < xs.length
  · obtain ⟨hgo, hy⟩ := io.go F H env2 fp2 σ2 i _ ev1 r1 hrb (List.getElem?_eq_getElem hlt)
    refine .inr ⟨hgo, P (i + 1), fun H' hP => ⟨xs.length - (i + 1), by omega, rfl, hP⟩, fun x H' hyx => ?_⟩
    obtain ⟨F', fr, g2, rp, vm⟩ := hy x H' hyx
    rw [List.drop_eq_getElem_cons hlt] at hr
    unfold compD at hr
    cases qg : gChk md gD xs[i] env2 with
    | none => rw [qg] at hr; cases hr
    | some e1 =>
      rw [qg] at hr
      simp only at hr
      have qg' : gD md xs[i] env2 = some e1 := by
        unfold gChk at qg
        rw [if_pos hrb] at qg
        exact qg
      refine ⟨Z2, F', H', env2, fp2, F', env2, fp2, xs[i], fr, md, hpin, Ev.refl (Z := Z2) _ rfl, r1.grow g2, rp, vm H' env2 fp2, e1, qg', fun σ3 F3 H3 fp3 g3 ev3 r3 => ?_⟩
      have hw : wipe σ3 vs = σ2 := by
        apply List.ext_getElem?
        intro j
        have l3 := r3.len.1
        have l2 := r0.len.1
        by_cases hj : j < Z2.n
        · by_cases hv : j ∈ vs
          · rw [wipe_in hv (by rw [l3]; exact hj), hσ j hv hj]
          · rw [wipe_out hv]
            obtain ⟨v, hp⟩ := hpins j hv hj
            have z1 := r3.pin _ hp
            have z2 := r0.pin _ hp
            rw [z1, z2]
        · rw [List.getElem?_eq_none (by rw [wipe_length, l3]; omega), List.getElem?_eq_none (by rw [l2]; omega)]
      refine ⟨hw, Z2, F3, e1, fp3, r3, ?_⟩
      -- all that was built stays
      have keep : ∀ {F4 H4}, Grow F H F4 H4 → H4 Dd = some (.lst vals) ∧ F4 Dd = none ∧ RepL K F4 H4 acc vals facc ∧ (∀ b ∈ facc, (b ∈ f0 ∨ Hb b = none) ∧ F4 b = none) := fun {F4 H4} g => by
        have none_of : ∀ b, F b = none → H b ≠ none → F4 b = none := fun b h1 h2 => by
          cases q : F4 b with
          | none => rfl
          | some u => exact absurd (g.new b h1 (by rw [q]; exact fun z => by cases z)) h2
        exact ⟨g.keep _ _ hDl, none_of Dd hFD (by rw [hDl]; exact fun z => by cases z), rl.grow g, fun b hb => ⟨(hfa b hb).1, none_of b (hfa b hb).2 (RepL.dom _ _ _ rl b hb)⟩⟩
      have gF3 := g2.trans g3
      cases qt : ft e1 with
      | exc c x e => rw [qt] at hr; cases hr
      | stuck => rw [qt] at hr; cases hr
      | ok b e4 =>
        intro F4 H4 fp4 ev4 r4
        obtain ⟨ee4, ef4⟩ := ev4.pure rfl
        subst ee4 ef4
        have g4 := ev4.grow r4
        have gF4 := gF3.trans g4
        cases b with
        | false =>
          rw [qt] at hr
          simp only at hr
          obtain ⟨k1, k2, k3, k4⟩ := keep gF4
          exact ⟨by omega, F4, acc, vals, facc, gr.trans gF4, k1, k2, k3, nD, k4, rest, hr, hds⟩
        | true =>
          rw [qt] at hr
          simp only at hr
          cases qe : fe e4 with
          | exc c x e => rw [qe] at hr; cases hr
          | stuck => rw [qe] at hr; cases hr
          | ok d e5 =>
            rw [qe] at hr
            rw [Option.map_eq_some_iff] at hr
            obtain ⟨rest', hr', rfl⟩ := hr
            simp only [if_true]
            refine ⟨Z2, F4, e4, fp4, r4, ?_⟩
            rw [qe]
            intro F5 H5 fp5 y fy ev5 r5 rp5 ko5
            obtain ⟨ee5, ef5⟩ := ev5.pure rfl
            subst ee5 ef5
            have g5 := ev5.grow r5
            have gF5 := gF4.trans g5
            obtain ⟨k1, k2, k3, k4⟩ := keep gF5
            have gb5 := gr.trans gF5
            have gb4 := gr.trans gF4
            have hfy : ∀ b ∈ fy, Hb b = none ∧ F5 b = none ∧ H4 b = none := fun b hb => by
              cases k with
              | own =>
                obtain ⟨z1, z2, z3⟩ := ko5 b hb
                have n4 : H4 b = none := z1.resolve_right z2
                refine ⟨?_, z3, n4⟩
                cases q : Hb b with
                | none => rfl
                | some o => rw [gb4.keep b o q] at n4; cases n4
              | frz =>
                have z : fy = [] := ko5
                rw [z] at hb
                cases hb
              | bor _ => cases hk
            have hlen : vals.length < sizeLine := by
              rw [rl.len]
              rw [← hds] at hl
              simp at hl
              omega
            have nfy : Dd ∉ fy := fun z => by
              have q := (hfy Dd z).2.2
              rw [(keep gF4).1] at q
              cases q
            have dj : ∀ b ∈ facc, b ∉ fy := fun b hb hm => by
              have q := (hfy b hm).2.2
              exact RepL.dom _ _ _ (keep gF4).2.2.1 b hb q
            have nDa : Dd ∉ facc ++ fy := fun z => (List.mem_append.mp z).elim nD nfy
            refine ⟨vals, k1, hlen, by omega, F5, acc ++ [d], vals ++ [y], facc ++ fy, ?_, upd_same, k2, ?_, nDa, fun b hb => ?_, rest', hr', by rw [← hds]; simp⟩
            · refine ⟨fun a o ho => ?_, gb5.sub, gb5.new, fun a u ha => ?_, fun a o u ho => ?_⟩
              · have ne : a ≠ Dd := fun z => by rw [z, hD] at ho; cases ho
                rw [upd_ne ne]
                exact gb5.keep a o ho
              · have ne : a ≠ Dd := fun z => by rw [z, k2] at ha; cases ha
                exact (gb5.has a u ha).same fun o ho => by rw [upd_ne ne]; exact ho
              · exact gb5.nofz a o u (nofz_upd rfl a o u ho)
            · exact (k3.app (.one rp5) dj).at_upd nDa
            · rcases List.mem_append.mp hb with hb | hb
              · exact k4 b hb
              · exact ⟨.inr (hfy b hb).1, (hfy b hb).2.1⟩
  · refine .inl ⟨io.stop F H env2 fp2 σ2 i ev1 r1 (by omega), ?_⟩
    rw [List.drop_eq_nil_of_le (by omega)] at hr
    cases hr
    rw [List.append_nil] at hds
    subst hds
    exact hq F H vals facc gr hDl hFD rl nD hfa
end
def rmH (H : Hp) (d : Addr) : Hp := fun a => if a = d then none else H a
theorem rmH_ne {H : Hp} {d a : Addr} (h : a ≠ d) : rmH H d a = H a := if_neg h
theorem rmH_same {H : Hp} {d : Addr} : rmH H d d = none := if_pos rfl
theorem rmH_back {H : Hp} {d : Addr} {u : HO} (h : H d = some u) : upd (rmH H d) d u = H := by
  funext a
  by_cases e : a = d
  · subst e; rw [upd_same, h]
  · rw [upd_ne e, rmH_ne e]
theorem rmH_some {H : Hp} {d a : Addr} {o : HO} (h : rmH H d a = some o) : a ≠ d ∧ H a = some o := by
  unfold rmH at h
  split at h
  · cases h
  · rename_i e; exact ⟨e, h⟩
section
variable {K : PySem.W.Frag} {F H : Hp} {env : Evn} {fp : Fp} {Z : Zst} {σ : L2.St} {d : Addr}
theorem Rep.drop {x : D} {v : V} {f : List Addr} (h : Rep K F H x v f) (n : d ∉ f) : Rep K F (rmH H d) x v f :=
  Rep.mono (fun _ _ h => h) x v f (fun a ha u hu => hu.same fun o ho => by rw [rmH_ne (fun z => n (by rw [← z]; exact ha))]; exact ho) h
theorem RepL.drop {x : List D} {v : List V} {f : List Addr} (h : RepL K F H x v f) (n : d ∉ f) : RepL K F (rmH H d) x v f :=
  RepL.mono (fun _ _ h => h) x v f (fun a ha u hu => hu.same fun o ho => by rw [rmH_ne (fun z => n (by rw [← z]; exact ha))]; exact ho) h
theorem R.drop (r : R K Z F H env σ fp) (hF : F d = none) (hB : ¬ Z.B d) (ho : ∀ i, hold env i → d ∉ fp i) : R K Z F (rmH H d) env σ fp where
  sub := fun a u h => (r.sub a u h).same fun o q => by rw [rmH_ne (fun z => by rw [z, hF] at h; cases h)]; exact q
  slot := fun i => by
    have s := r.slot i
    unfold SlotR at s ⊢
    cases q : env[i]? with
    | none => trivial
    | some t =>
      rw [q] at s
      cases t with
      | dead => trivial
      | own x =>
        obtain ⟨v, h1, h2⟩ := s
        exact ⟨v, h1, h2.drop (ho i (.inl ⟨x, q⟩))⟩
      | bor m x =>
        cases m with
        | none =>
          obtain ⟨v, h1, h2, h3⟩ := s
          exact ⟨v, h1, h2.drop (fun z => hB (h3 d z)), h3⟩
        | some m =>
          obtain ⟨v, h1, h2, h3, h4⟩ := s
          exact ⟨v, h1, h2.drop (fun z => ho m h3 (h4 d z)), h3, h4⟩
  sep := r.sep
  sepB := r.sepB
  hF := r.hF
  domB := fun a ha => by rw [rmH_ne (fun z => hB (by rw [← z]; exact ha))]; exact r.domB a ha
  pin := r.pin
  gh := fun p hp => (r.gh p hp).drop (fun z => nomatch z)
  len := r.len
  nf := fun i hi a ha o u q => r.nf i hi a ha o u (rmH_some q).2
end
def flat : Md → Bool
  | .bor (some _) => false
  | _ => true
theorem flat_root {md : Md} (h : flat md = true) (env : Evn) : rootB md env = true := by
  cases md with
  | own => rfl
  | bor m => cases m with
    | none => rfl
    | some m => cases h
theorem flat_lock {md : Md} (h : flat md = true) (env : Evn) : lockR md env = env := by
  cases md with
  | own => rfl
  | bor m => cases m with
    | none => rfl
    | some m => cases h
def compD2 (g : D → Evn → Option Evn) (ft : FT) (k1 : Kd) (fi1 : FE) (vs1 : List Nat) (g1 : Md → D → Evn → Option Evn) (ft1 : FT) (fe : FE) (env : Evn) : List D → Option (List D)
  | [] => some []
  | x :: xs => match g x env with
    | none => none
    | some e1 => match ft e1 with
      | .ok true e2 => (match fi1 e2 with
        | .ok d e3 => (match walkD k1 d e3 with
          | some (md1, d') => if flat md1 = true ∧ (vs1.all fun j => decide (j < e3.length)) = true then (match seqD d' with
            | some ys => (match compD (gChk md1 g1) ft1 fe (deadM vs1 e3) ys with
              | some ds => (compD2 g ft k1 fi1 vs1 g1 ft1 fe env xs).map (ds ++ ·)
              | none => none)
            | none => none) else none
          | none => none)
        | _ => none)
      | .ok false _ => compD2 g ft k1 fi1 vs1 g1 ft1 fe env xs
      | _ => none
def fLc2 (n : Nat) (vs : List Nat) (fI : Evn → Rs (Md × List D × Bool)) (gD : Md → D → Evn → Option Evn) (ft : FT) (k1 : Kd) (fi1 : FE) (vs1 : List Nat) (g1 : Md → D → Evn → Option Evn) (ft1 : FT) (fe : FE) : FE := fun env => (fI env).bind fun y e1 =>
  if e1.length = n ∧ (vs.all fun j => decide (j < n)) = true ∧ rootB y.1 (deadM vs (lockR y.1 e1)) = true then (match compD2 (gChk y.1 gD) ft k1 fi1 vs1 g1 ft1 fe (deadM vs (lockR y.1 e1)) y.2.1 with
    | some ds => if ds.length ≤ sizeLine then .ok (.node true .lst ds) e1 else .stuck
    | none => .stuck) else .stuck
def wOfL (K : PySem.W.Frag) (k : Kd) (f : FE) : TI := fun σ H Rq => ∃ Z F env fp, R K Z F H env σ fp ∧ Post K WF false Z F H env σ fp (fun d env' => ∀ F' H' fp' v fr, Ev false F H env fp F' H' env' fp' → R K Z F' H' env' σ fp' → Rep K F' H' d v fr → KOk k H env fp F' env' fp' fr →
  ∃ a, v = .ref a ∧ (((∃ xs, SqL K H' a xs) ∧ Rq (Itl K a) H') ∨ ((∃ xs, SqT K H' a xs) ∧ Rq (Itt K a) H'))) (f env)
theorem pi_wOfL {X : Cx} {k : Kd} {tg iter : Expr} {f : FE} (h : DE X WF false k iter f) : PI X tg iter (wOfL X.K k f) := by
  obtain ⟨t, p, sm⟩ := h.ex
  constructor
  rintro pins s σ H Rq I ⟨Z, F, env, fp, r, hp⟩
  refine thn (p.run pins s σ H _ I (sm Z F H env σ fp (fun x H1 => ∃ a, x = .ref a ∧ (((∃ xs, SqL X.K H1 a xs) ∧ Rq (Itl X.K a) H1) ∨ ((∃ xs, SqT X.K H1 a xs) ∧ Rq (Itt X.K a) H1))) r hp)) fun v s1 ⟨x, H1, I1, r1, a, e, q⟩ => ?_
  subst e
  cases r1
  rcases q with ⟨⟨xs, hq⟩, q⟩ | ⟨⟨xs, hq⟩, q⟩
  · obtain ⟨its, rv, p1, hz⟩ := I1.list hq
    refine wpAny_pyIter_list p1.isList ⟨s1.heap.objs.size, [s1.heap.objs.size], _, _, H1, rfl, I1.kept (t' := s1.toks) fun b o e => Heap.get?_push_of_some _ e, turn_list a _, ⟨_, Heap.get?_push_size _ rfl, rfl, rfl⟩, fun b hb => ?_, q⟩
    rw [List.mem_singleton.mp hb]
    exact I1.fpOk (Nat.le_refl _) (I1.hok.fresh (Nat.le_refl _))
  · obtain ⟨its, rv, p1, hz⟩ := I1.tuple hq
    refine wpAny_pyIter_tuple (show s1.heap.IsTuple a its.toArray from p1) ⟨s1.heap.objs.size, [s1.heap.objs.size], _, _, H1, rfl, I1.kept (t' := s1.toks) fun b o e => Heap.get?_push_of_some _ e, turn_tuple a _, ⟨_, Heap.get?_push_size _ rfl, rfl, rfl⟩, fun b hb => ?_, q⟩
    rw [List.mem_singleton.mp hb]
    exact I1.fpOk (Nat.le_refl _) (I1.hok.fresh (Nat.le_refl _))
section
variable {X : Cx} {W : WX} {ε : Bool} {k k1 : Kd} {tg iter elt c tg1 iter1 : Expr} {ifs ifs1 : List Expr} {scope : Scope} {own : List (Str × Nat)} {pos : Pos} {fI : Evn → Rs (Md × List D × Bool)} {gD g1 : Md → D → Evn → Option Evn} {ft ft1 : FT} {fe fi1 : FE} {n : Nat} {vs vs1 : List Nat}
def InT (K : PySem.W.Frag) (k : Kd) (n : Nat) (vs1 : List Nat) (g1 : Md → D → Evn → Option Evn) (ft1 : FT) (fe : FE) (Dd : Addr) (Nx : Hp → Prop) (σ3 : L2.St) (J : It) (H5 : Hp) : Prop := ∃ W1 : Nat → Nat → Hp → Prop, (∃ m, W1 0 m H5) ∧ ∀ j k' H, W1 j k' H →
  (J.stop j H ∧ Nx H) ∨ (J.go j H ∧ ∃ Nx1 : Hp → Prop, (∀ H', Nx1 H' → ∃ k2, k2 < k' ∧ W1 (j + 1) k2 H') ∧ ∀ x H', J.yld j H x H' → gOfP K (msB n vs1) g1 x (wipe σ3 vs1) H' fun σ4 H6 => wipe σ4 vs1 = wipe σ3 vs1 ∧ tOfT K WF false ft1 σ4 H6 fun b H7 =>
    if b = true then tOfE K WF false k fe σ4 H7 fun y H8 => ∃ acc, H8 Dd = some (.lst acc) ∧ acc.length < sizeLine ∧ Nx1 (upd H8 Dd (.lst (acc ++ [y]))) else Nx1 H7)
def PinsOf (n : Nat) (vs : List Nat) (σ : L2.St) : List (Nat × Option V) := (msB n vs).filterMap fun j => ((wipe σ vs)[j]?).map fun v => (j, v)
theorem pinsOf_ms {σ : L2.St} : ∀ p ∈ PinsOf n vs σ, p.1 ∈ msB n vs := fun p hp => by
  obtain ⟨j, h3, h2⟩ := List.mem_filterMap.mp hp
  rw [Option.map_eq_some_iff] at h2
  obtain ⟨v, _, rfl⟩ := h2
  exact h3
theorem pinsOf_at {σ : L2.St} : ∀ p ∈ PinsOf n vs σ, (wipe σ vs)[p.1]? = some p.2 := fun p hp => by
  obtain ⟨j, _, h2⟩ := List.mem_filterMap.mp hp
  rw [Option.map_eq_some_iff] at h2
  obtain ⟨v, h3, rfl⟩ := h2
  exact h3
theorem pinsOf_ex {σ : L2.St} (hl : σ.length = n) : ∀ j, j ∉ vs → j < n → ∃ v, (j, v) ∈ PinsOf n vs σ := fun j hj hn => by
  have hjl : j < (wipe σ vs).length := by rw [wipe_length, hl]; exact hn
  refine ⟨(wipe σ vs)[j], List.mem_filterMap.mpr ⟨j, ?_, by rw [List.getElem?_eq_getElem hjl]; rfl⟩⟩
  unfold msB
  rw [List.mem_filter, List.mem_range]
  exact ⟨hn, by simpa using hj⟩
theorem comp_in {K : PySem.W.Frag} {Z : Zst} {F H : Hp} {env : Evn} {fp : Fp} {σ : L2.St} {J : It} {ys : List D} {md : Md} {Dd : Addr} {ds a0 : List D} {v0 : List V} {f0 : List Addr} {QQ : Hp → Prop} (hk : k.prot = true) (r : R K Z F H env σ fp) (hn : Z.n = n) (hl1 : ∀ j ∈ vs1, j < env.length) (fl : flat md = true)
    (hD : H Dd = some (.lst v0)) (hFD : F Dd = none) (hB : ¬ Z.B Dd) (ho : ∀ i, hold env i → Dd ∉ fp i) (rep0 : RepL K F H a0 v0 f0) (nD0 : Dd ∉ f0) (hf0 : ∀ b ∈ f0, F b = none)
    (io : ∀ Z3 env3 fp3 σ3, Z3.B = Z.B → R K Z3 F (rmH H Dd) env3 σ3 fp3 → IOk K Z3 F (rmH H Dd) env3 fp3 J ys md) (hc : compD (gChk md g1) ft1 fe (deadM vs1 env) ys = some ds) (hl : (a0 ++ ds).length ≤ sizeLine)
    (hq : ∀ F' H' vals facc, Grow F (rmH H Dd) F' H' → H' Dd = some (.lst vals) → F' Dd = none → RepL K F' H' (a0 ++ ds) vals facc → Dd ∉ facc → (∀ b ∈ facc, (b ∈ f0 ∨ rmH H Dd b = none) ∧ F' b = none) → QQ H') : InT K k n vs1 g1 ft1 fe Dd QQ σ J H := by
  let Z3 : Zst := ⟨Z.B, PinsOf n vs1 σ, Z.n, Z.gh⟩
  have hσl : σ.length = n := by rw [r.len.1, hn]
  have rD := (r.drop hFD hB ho).dead hl1
  have r3 : R K Z3 F (rmH H Dd) (deadM vs1 env) (wipe σ vs1) (fpD vs1 fp) := by
    refine rD.sigma (fun j hj => ?_) (wipe_length σ vs1) rfl rfl rfl fun p hp => pinsOf_at p hp
    by_cases hjv : j ∈ vs1
    · exact dead_at hjv (hl1 j hjv)
    · exact absurd (wipe_out hjv) hj
  have key := comp_simA (vs := vs1) (n := n) hk r3 (io Z3 _ _ _ rfl r3) (flat_root fl _) (Dd := Dd) rmH_same (rep0.drop nD0) nD0 hf0 pinsOf_ms (fun j hj hjn => pinsOf_ex hσl j hj (by have z : j < Z.n := hjn; omega)) (fun j hj hjn => wipe_in hj (by rw [r.len.1]; exact hjn)) hc hl hq
  rw [rmH_back hD] at key
  exact key
theorem comp_sim2 {K : PySem.W.Frag} {Z2 : Zst} {F1 Hb : Hp} {env2 : Evn} {fp2 : Fp} {σ2 : L2.St} {J : It} {xs : List D} {md : Md} {Dd : Addr} {ds : List D} {Q : VK} (hk : k.prot = true) (hZn : Z2.n = n)
    (r0 : R K Z2 F1 Hb env2 σ2 fp2) (io : IOk K Z2 F1 Hb env2 fp2 J xs md) (hrb : rootB md env2 = true) (hD : Hb Dd = none) (hpin : ∀ p ∈ Z2.pins, p.1 ∈ msB n vs) (hpins : ∀ j, j ∉ vs → j < Z2.n → ∃ v, (j, v) ∈ Z2.pins) (hσ : ∀ j ∈ vs, j < Z2.n → σ2[j]? = some none)
    (hc : compD2 (gChk md gD) ft k1 fi1 vs1 g1 ft1 fe env2 xs = some ds) (hl : ds.length ≤ sizeLine)
    (hq : ∀ F H vals facc, Grow F1 Hb F H → H Dd = some (.lst vals) → F Dd = none → RepL K F H ds vals facc → Dd ∉ facc → (∀ b ∈ facc, Hb b = none ∧ F b = none) → Q (.ref Dd) H) :
    ∃ W : Nat → Nat → Hp → Prop, (∃ m, W 0 m (upd Hb Dd (.lst []))) ∧ ∀ i m H, W i m H →
      (J.stop i H ∧ Q (.ref Dd) H) ∨ (J.go i H ∧ ∃ Nx : Hp → Prop, (∀ H', Nx H' → ∃ m', m' < m ∧ W (i + 1) m' H') ∧ ∀ x H', J.yld i H x H' → gOfP K (msB n vs) gD x σ2 H' fun σ3 H3 => wipe σ3 vs = σ2 ∧ tOfT K WF false ft σ3 H3 fun b H4 =>
        if b = true then wOfL K k1 fi1 σ3 H4 fun J1 H5 => InT K k n vs1 g1 ft1 fe Dd Nx σ3 J1 H5 else Nx H4) := by
  have hF0 : F1 Dd = none := by
    cases q : F1 Dd with
    | none => rfl
    | some u => exact absurd hD (r0.sub Dd u q).ne
  let P : Nat → Hp → Prop := fun i H => i ≤ xs.length ∧ ∃ F acc vals facc, Grow F1 Hb F H ∧ H Dd = some (.lst vals) ∧ F Dd = none ∧ RepL K F H acc vals facc ∧ Dd ∉ facc ∧ (∀ b ∈ facc, Hb b = none ∧ F b = none) ∧ ∃ rest, compD2 (gChk md gD) ft k1 fi1 vs1 g1 ft1 fe env2 (xs.drop i) = some rest ∧ acc ++ rest = ds
  refine ⟨fun i m H => m = xs.length - i ∧ P i H, ⟨xs.length, rfl, Nat.zero_le _, F1, [], [], [], Grow.upd r0.sub hD, upd_same, hF0, ⟨rfl, rfl⟩, by simp, fun b hb => (by cases hb), ds, hc, rfl⟩, ?_⟩
  rintro i m H ⟨rfl, hi, F, acc, vals, facc, gr, hDl, hFD, rl, nD, hfa, rest, hr, hds⟩
  have r1 := r0.grow gr
  have ev1 : Ev true F1 Hb env2 fp2 F H env2 fp2 := gr.ev
  by_cases hlt : i < xs.length
  case neg =>
    refine .inl ⟨io.stop F H env2 fp2 σ2 i ev1 r1 (by omega), ?_⟩
    rw [List.drop_eq_nil_of_le (by omega)] at hr
    cases hr
    rw [List.append_nil] at hds
    subst hds
    exact hq F H vals facc gr hDl hFD rl nD hfa
  obtain ⟨hgo, hy⟩ := io.go F H env2 fp2 σ2 i _ ev1 r1 hrb (List.getElem?_eq_getElem hlt)
  refine .inr ⟨hgo, P (i + 1), fun H' hP => ⟨xs.length - (i + 1), by omega, rfl, hP⟩, fun x H' hyx => ?_⟩
  obtain ⟨F', fr, g2, rp, vm⟩ := hy x H' hyx
  rw [List.drop_eq_getElem_cons hlt] at hr
  unfold compD2 at hr
  cases qg : gChk md gD xs[i] env2 with
  | none => rw [qg] at hr; cases hr
  | some e1 =>
  rw [qg] at hr
  simp only at hr
  have qg' : gD md xs[i] env2 = some e1 := by
    unfold gChk at qg
    rw [if_pos hrb] at qg
    exact qg
  refine ⟨Z2, F', H', env2, fp2, F', env2, fp2, xs[i], fr, md, hpin, Ev.refl (Z := Z2) _ rfl, r1.grow g2, rp, vm H' env2 fp2, e1, qg', fun σ3 F3 H3 fp3 g3 ev3 r3 => ?_⟩
  have hw : wipe σ3 vs = σ2 := by
    apply List.ext_getElem?
    intro j
    have l3 := r3.len.1
    have l2 := r0.len.1
    by_cases hj : j < Z2.n
    · by_cases hv : j ∈ vs
      · rw [wipe_in hv (by rw [l3]; exact hj), hσ j hv hj]
      · rw [wipe_out hv]
        obtain ⟨v, hp⟩ := hpins j hv hj
        have z1 := r3.pin _ hp
        have z2 := r0.pin _ hp
        rw [z1, z2]
    · rw [List.getElem?_eq_none (by rw [wipe_length, l3]; omega), List.getElem?_eq_none (by rw [l2]; omega)]
  refine ⟨hw, Z2, F3, e1, fp3, r3, ?_⟩
  have keep : ∀ {F4 H4}, Grow F H F4 H4 → H4 Dd = some (.lst vals) ∧ F4 Dd = none ∧ RepL K F4 H4 acc vals facc ∧ (∀ b ∈ facc, Hb b = none ∧ F4 b = none) := fun {F4 H4} g => by
    have none_of : ∀ b, F b = none → H b ≠ none → F4 b = none := fun b h1 h2 => by
      cases q : F4 b with
      | none => rfl
      | some u => exact absurd (g.new b h1 (by rw [q]; exact fun z => by cases z)) h2
    exact ⟨g.keep _ _ hDl, none_of Dd hFD (by rw [hDl]; exact fun z => by cases z), rl.grow g, fun b hb => ⟨(hfa b hb).1, none_of b (hfa b hb).2 (RepL.dom _ _ _ rl b hb)⟩⟩
  have hBD : ¬ Z2.B Dd := fun z => r0.domB Dd z hD
  have hoD : ∀ i, hold e1 i → Dd ∉ fp3 i := fun i hi ha => by
    have nH : H' Dd ≠ none := by rw [g2.keep _ _ hDl]; exact fun z => by cases z
    rcases hi with hi | hi
    · rcases ev3.own Dd ⟨i, hi, ha⟩ with z | z
      · exact nH z
      · exact r0.own_dom z hD
    · obtain ⟨z1, z2⟩ := ev3.lks i hi
      obtain ⟨x, hx⟩ := hi
      exact r0.hold_dom (.inr ⟨x, by rw [← z1]; exact hx⟩) (by rw [← z2]; exact ha) hD
  have gF3 := g2.trans g3
  cases qt : ft e1 with
  | exc c x e => rw [qt] at hr; cases hr
  | stuck => rw [qt] at hr; cases hr
  | ok b e4 =>
  intro F4 H4 fp4 ev4 r4
  obtain ⟨ee4, ef4⟩ := ev4.pure rfl
  subst ee4 ef4
  have g4 := ev4.grow r4
  have gF4 := gF3.trans g4
  cases b with
  | false =>
    rw [qt] at hr
    simp only at hr
    obtain ⟨k1, k2, k3, k4⟩ := keep gF4
    exact ⟨by omega, F4, acc, vals, facc, gr.trans gF4, k1, k2, k3, nD, k4, rest, hr, hds⟩
  | true =>
  rw [qt] at hr
  simp only at hr
  simp only [if_true]
  cases qi : fi1 e4 with
  | exc c x e => rw [qi] at hr; cases hr
  | stuck => rw [qi] at hr; cases hr
  | ok d e5 =>
  rw [qi] at hr
  simp only at hr
  cases qw : walkD k1 d e5 with
  | none => rw [qw] at hr; cases hr
  | some w =>
  obtain ⟨md1, d'⟩ := w
  rw [qw] at hr
  simp only at hr
  split at hr
  case isFalse => cases hr
  rename_i hcond
  obtain ⟨hfl, hall⟩ := hcond
  cases qs : seqD d' with
  | none => rw [qs] at hr; cases hr
  | some ys =>
  rw [qs] at hr
  simp only at hr
  cases qc : compD (gChk md1 g1) ft1 fe (deadM vs1 e5) ys with
  | none => rw [qc] at hr; cases hr
  | some dd =>
  rw [qc] at hr
  simp only at hr
  rw [Option.map_eq_some_iff] at hr
  obtain ⟨rest', hr', rfl⟩ := hr
  refine ⟨Z2, F4, e4, fp4, r4, ?_⟩
  rw [qi]
  intro F5 H5 fp5 v fr5 ev5 r5 rp5 ko5
  obtain ⟨ee5, ef5⟩ := ev5.pure rfl
  subst ee5 ef5
  obtain ⟨F6, fr6, hF6, r6, ev6, rp6, wk⟩ := walk_ok r4 ev5 r5 rp5 ko5 qw
  rw [flat_lock hfl] at wk
  have g6 := ev6.grow r6
  have gF6 := gF4.trans g6
  obtain ⟨m1, m2, m3, m4⟩ := keep gF6
  have gb := gr.trans gF6
  have hvl : ∀ j ∈ vs1, j < e5.length := fun j hj => by
    have := List.all_eq_true.mp hall j hj
    simpa using this
  have nfr : Dd ∉ fr6 := by
    cases md1 with
    | own =>
      have z : fr6 = [] := wk
      rw [z]
      exact fun q => nomatch q
    | bor mm =>
      cases mm with
      | none => exact fun q => hBD (wk Dd q)
      | some mm => cases hfl
  have wkOf : ∀ {Z3 : Zst} {env3 : Evn} {fp3 : Fp}, Z3.B = Z2.B → Wlk Z3 env3 fp3 fr6 md1 := fun {Z3 env3 fp3} hB => by
    cases md1 with
    | own => exact wk
    | bor mm =>
      cases mm with
      | none => exact fun a ha => by rw [hB]; exact wk a ha
      | some mm => cases hfl
  have fin : ∀ F7 H7 vals' facc', Grow F6 (rmH H5 Dd) F7 H7 → H7 Dd = some (.lst vals') → F7 Dd = none → RepL K F7 H7 (acc ++ dd) vals' facc' → Dd ∉ facc' → (∀ b ∈ facc', (b ∈ facc ∨ rmH H5 Dd b = none) ∧ F7 b = none) → P (i + 1) H7 := by
    intro F7 H7 vals' facc' g7 h1 h2 h3 h4 h5
    have back : ∀ a, rmH H5 Dd a = none → Hb a = none := fun a ha => by
      by_cases e : a = Dd
      · rw [e]; exact hD
      · rw [rmH_ne e] at ha
        cases q : Hb a with
        | none => rfl
        | some o => rw [gb.keep a o q] at ha; cases ha
    refine ⟨by omega, F7, acc ++ dd, vals', facc', ⟨fun a o hoa => ?_, fun a u hu => g7.sub a u (gb.sub a u hu), fun a n1 n2 => ?_, g7.has, fun a o u ha => gb.nofz a o u (rmH_some (g7.nofz a o u ha)).2⟩, h1, h2, h3, h4, fun b hb => ⟨?_, (h5 b hb).2⟩, rest', hr', by rw [List.append_assoc]; exact hds⟩
    · have ne : a ≠ Dd := fun z => by rw [z, hD] at hoa; cases hoa
      exact g7.keep a o (by rw [rmH_ne ne]; exact gb.keep a o hoa)
    · by_cases q : F6 a = none
      · exact back a (g7.new a q n2)
      · exact gb.new a n1 q
    · rcases (h5 b hb).1 with z | z
      · exact (hfa b z).1
      · exact back b z
  have hlen : (acc ++ dd).length ≤ sizeLine := by
    rw [← hds] at hl
    simp only [List.length_append] at hl ⊢
    omega
  unfold seqD at qs
  split at qs
  · rename_i o zs
    cases qs
    obtain ⟨a, us, fq, rfl, ha, rla, sb⟩ := rp6.lst r6.sub
    exact ⟨a, rfl, .inl ⟨⟨us, .inl (.inl ha)⟩, comp_in hk r6 hZn hvl hfl m1 m2 hBD hoD m3 nD (fun b hb => (m4 b hb).2) (fun Z3 env3 fp3 σ3 hB r3 => io_list (wkOf hB) r3 (rp6.drop nfr)) qc hlen fin⟩⟩
  · rename_i o zs
    cases qs
    obtain ⟨a, us, fq, rfl, ha, rla, sb⟩ := rp6.tup r6.sub
    exact ⟨a, rfl, .inr ⟨⟨us, .inl (.inl ha)⟩, comp_in hk r6 hZn hvl hfl m1 m2 hBD hoD m3 nD (fun b hb => (m4 b hb).2) (fun Z3 env3 fp3 σ3 hB r3 => io_tup (wkOf hB) r3 (rp6.drop nfr)) qc hlen fin⟩⟩
  · cases qs
theorem esim_lc2 {wi : TI} (hk : k.prot = true) (s1 : ISim X W ε wi fI) (hv : own.map (·.2) = vs) : ESim X.K W ε .own (tUnE X (tLc2 wi (gOfP X.K (msB n vs) gD) (tOfT X.K WF false ft) (wOfL X.K k1 fi1) (gOfP X.K (msB n vs1) g1) (tOfT X.K WF false ft1) (tOfE X.K WF false k fe) (own.map (·.2)) vs1)) (fLc2 n vs fI gD ft k1 fi1 vs1 g1 ft1 fe) := by
  intro Z F H env σ fp Q r h
  rw [hv]
  refine s1 Z F H env σ fp _ r (Post.bind h id id fun y e1 h1 F1 H1 fp1 J lk ev r1 hh hl io => ?_)
  intro Dd hD
  split at h1
  case isFalse => exact h1.elim
  rename_i hcond
  obtain ⟨hlen, hall, hrb⟩ := hcond
  cases qc : compD2 (gChk y.1 gD) ft k1 fi1 vs1 g1 ft1 fe (deadM vs (lockR y.1 e1)) y.2.1 with
  | none => rw [qc] at h1; exact h1.elim
  | some ds =>
    rw [qc] at h1
    simp only at h1
    split at h1
    case isFalse => exact h1.elim
    rename_i hz
    have hvs : ∀ j ∈ vs, j < n := fun j hj => by
      have := List.all_eq_true.mp hall j hj
      simpa using this
    have hvl : ∀ j ∈ vs, j < (lockR y.1 e1).length := fun j hj => by rw [lockR_length, hlen]; exact hvs j hj
    have rL := lockR_R (md := y.1) r1
    have rD := rL.dead hvl
    have hZn : Z.n = n := by rw [← r1.len.2, hlen]
    let Z2 : Zst := ⟨Z.B, ((msB n vs).filterMap fun j => ((wipe σ vs)[j]?).map fun v => (j, v)), Z.n, Z.gh⟩
    have hl1 := r1.len.1
    have rS : R X.K Z2 F1 H1 (deadM vs (lockR y.1 e1)) (wipe σ vs) (fpD vs fp1) := by
      refine rD.sigma (fun j hj => ?_) (wipe_length σ vs) rfl rfl rfl fun p hp => ?_
      · by_cases hjv : j ∈ vs
        · exact dead_at hjv (hvl j hjv)
        · exact absurd (wipe_out hjv) hj
      · obtain ⟨j, _, h2⟩ := List.mem_filterMap.mp hp
        rw [Option.map_eq_some_iff] at h2
        obtain ⟨v, h3, rfl⟩ := h2
        exact h3
    have hgen : ∀ md, rootB md (deadM vs (lockR y.1 e1)) = true → hang md fp1 (deadM vs (lockR y.1 e1)) (fpD vs fp1) := fun md hrb => by
      cases md with
      | own => trivial
      | bor m =>
        cases m with
        | none => trivial
        | some m =>
          have z := lkD_isLk (show lkD' _ m = true from hrb)
          have z2 := (hold_dead hvl).2.mp z
          exact ⟨z, by unfold fpD; rw [if_neg z2.2]⟩
    have hg := hgen y.1 hrb
    have rK := R.lkH (Z2 := Z2) hl rfl hg rS
    have io' := io Z2 _ _ _ rfl hg rK
    refine comp_sim2 (Z2 := Z2) (Q := fun v H' => Un1 X (Q v) H') hk hZn rK io' hrb hD (fun p hp => ?_) (fun j hj hjn => ?_) (fun j hj hjn => ?_) qc hz fun F2 H2 vals facc gr hDl hFD rl nD hfa => ?_
    · obtain ⟨j, h3, h2⟩ := List.mem_filterMap.mp hp
      rw [Option.map_eq_some_iff] at h2
      obtain ⟨v, _, rfl⟩ := h2
      exact h3
    · have hjl : j < (wipe σ vs).length := by rw [wipe_length, hl1]; exact hjn
      refine ⟨(wipe σ vs)[j], List.mem_filterMap.mpr ⟨j, ?_, by rw [List.getElem?_eq_getElem hjl]; rfl⟩⟩
      unfold msB
      rw [List.mem_filter, List.mem_range]
      have hjn' : j < Z.n := hjn
      exact ⟨by rw [← hZn]; exact hjn', by simpa using hj⟩
    · have hjn' : j < Z.n := hjn
      exact wipe_in hj (by rw [hl1]; exact hjn')
    · -- the end: the heap as it was, with the list
      have fin : ∀ {H3 : Hp}, Grow F1 H1 F2 H3 → H3 Dd = some (.lst vals) → RepL X.K F2 H3 ds vals facc → (∀ b ∈ facc, H1 b = none) → H1 Dd = none → Q (.ref Dd) H3 := fun {H3} g hd rl2 hn hn2 => by
        have e2 : Ev ε F1 H1 e1 fp1 F2 H3 e1 fp1 := g.ev
        refine h1 F2 H3 fp1 (.ref Dd) (Dd :: facc) ((ev.trans e2).mono (by cases ε <;> simp) (by cases ε <;> simp)) (r1.grow g) ?_ fun a ha => ?_
        · rw [Rep]
          exact ⟨Dd, .lst vals, vals, facc, rfl, rfl, .inl hd, rfl, nD, (fun z => by cases z), rl2⟩
        · rcases List.mem_cons.mp ha with rfl | ha
          · exact ⟨.inl (ev.nd hn2), fun z => r1.own_dom z hn2, hFD⟩
          · exact ⟨.inl (ev.nd (hn a ha)), fun z => r1.own_dom z (hn a ha), (hfa a ha).2⟩
      cases lk with
      | none => exact .inl (fin gr hDl rl (fun b hb => (hfa b hb).1) hD)
      | some l =>
        have hgL := lockR_hang (fp := fp1) hh
        obtain ⟨no, hF⟩ := hl.no (Z2 := Z) rfl hgL rL
        have rLk := R.lkH (Z2 := Z) hl rfl hgL rL
        obtain ⟨hi, h5, h6, h7, h8⟩ := hl
        have gr' : Grow F1 (upd H1 l.d (.frz l.od l.u)) F2 H2 := gr
        have rEnd := rLk.grow gr
        obtain ⟨z1, z2, z3⟩ := unfrz (ε := false) h5 h6 no hF gr'.ev rEnd
        have g3 := z1.grow z2
        have ndD : Dd ≠ l.d := fun z => by
          have q : upd H1 l.d (.frz l.od l.u) Dd = none := hD
          rw [z, upd_same] at q
          cases q
        have nf : ∀ b ∈ facc, b ≠ l.d := fun b hb z => by
          have q : upd H1 l.d (.frz l.od l.u) b = none := (hfa b hb).1
          rw [z, upd_same] at q
          cases q
        refine .inr ⟨l.d, l.od, l.u, z3, h7, fin g3 (by rw [upd_ne ndD]; exact hDl) (RepL.mono (fun _ _ h => h) _ _ _ (fun b hb w hw => hw.same fun o ho => by rw [upd_ne (nf b hb)]; exact ho) rl) (fun b hb => ?_) ?_⟩
        · have q : upd H1 l.d (.frz l.od l.u) b = none := (hfa b hb).1
          rw [upd_ne (nf b hb)] at q
          exact q
        · have q : upd H1 l.d (.frz l.od l.u) Dd = none := hD
          rw [upd_ne ndD] at q
          exact q
theorem de_lc2 (n : Nat) (vs vs1 : List Nat) (own : List (Str × Nat)) (hc : X.calm = true) (hN : X.N.Nodup) (hi : DI X W ε tg iter fI)
    (hg : ∀ (s : Shared) (H : Hp) (C : Addr) (cl : List (Str × Addr)) (fp : List Addr), DG (X.blk s H scope (compEnvC scope cl C X.env) fp) (msB n vs) tg gD) (ht : ∀ (s : Shared) (H : Hp) (C : Addr) (cl : List (Str × Addr)) (fp : List Addr), DTs (X.blk s H scope (compEnvC scope cl C X.env) fp) ifs ft)
    (hi1 : ∀ (s : Shared) (H : Hp) (C : Addr) (cl : List (Str × Addr)) (fp : List Addr), DE (X.blk s H scope (compEnvC scope cl C X.env) fp) WF false k1 iter1 fi1)
    (hg1 : ∀ (s : Shared) (H : Hp) (C : Addr) (cl : List (Str × Addr)) (fp : List Addr), DG (X.blk s H scope (compEnvC scope cl C X.env) fp) (msB n vs1) tg1 g1) (ht1 : ∀ (s : Shared) (H : Hp) (C : Addr) (cl : List (Str × Addr)) (fp : List Addr), DTs (X.blk s H scope (compEnvC scope cl C X.env) fp) ifs1 ft1)
    (he : ∀ (s : Shared) (H : Hp) (C : Addr) (cl : List (Str × Addr)) (fp : List Addr), DE (X.blk s H scope (compEnvC scope cl C X.env) fp) WF false k elt fe) (hk : k.prot = true := by rfl) (hv : own.map (·.2) = vs := by rfl) (hv1 : ∀ i ∈ vs1, i ∈ own.map (·.2) := by decide)
    (ok : blkC X.N X.env.scope scope own = true := by first | rfl | decide) (hp : tgPure tg = true := by rfl) (hp1 : tgPure tg1 = true := by rfl) (hs : ∀ x, foldedSetIterable iter X.env x = pure x := by intro _; rfl) (hs1 : ∀ env x, foldedSetIterable iter1 env x = pure x := by intro _ _; rfl) :
    DE X W ε .own (.ListComp elt [⟨tg, iter, ifs, 0⟩, ⟨tg1, iter1, ifs1, 0⟩] scope pos) (fLc2 n vs fI gD ft k1 fi1 vs1 g1 ft1 fe) := by
  obtain ⟨wi, p1, s1⟩ := hi.ex
  exact ⟨_, pe_un (pe_lc2 (wi1 := wOfL X.K k1 fi1) (te := tOfE X.K WF false k fe) (tt := tOfT X.K WF false ft) (tt1 := tOfT X.K WF false ft1) (g := gOfP X.K (msB n vs) gD) (g1 := gOfP X.K (msB n vs1) g1) hc hN p1 (blkOk_by ok) hv1 (fun s H C cl fp => (hg s H C cl fp).canonP hp) (fun s H C cl fp => (ht s H C cl fp).run)
    (fun s H C cl fp => pi_wOfL (hi1 s H C cl fp)) (fun s H C cl fp => (hg1 s H C cl fp).canonP hp1) (fun s H C cl fp => (ht1 s H C cl fp).run) (fun s H C cl fp => (he s H C cl fp).canon) hs hs1), esim_lc2 hk s1 hv⟩
theorem ds_setLc2 (i : Nat) {y : Str} {py spos : Pos} {ms : List Nat} (n : Nat) (vs vs1 : List Nat) (own : List (Str × Nat)) (hc : X.calm = true) (hN : X.N.Nodup) (hi : DI X W ε tg iter fI)
    (hg : ∀ (s : Shared) (H : Hp) (C : Addr) (cl : List (Str × Addr)) (fp : List Addr), DG (X.blk s H scope (compEnvC scope cl C X.env) fp) (msB n vs) tg gD) (ht : ∀ (s : Shared) (H : Hp) (C : Addr) (cl : List (Str × Addr)) (fp : List Addr), DTs (X.blk s H scope (compEnvC scope cl C X.env) fp) ifs ft)
    (hi1 : ∀ (s : Shared) (H : Hp) (C : Addr) (cl : List (Str × Addr)) (fp : List Addr), DE (X.blk s H scope (compEnvC scope cl C X.env) fp) WF false k1 iter1 fi1)
    (hg1 : ∀ (s : Shared) (H : Hp) (C : Addr) (cl : List (Str × Addr)) (fp : List Addr), DG (X.blk s H scope (compEnvC scope cl C X.env) fp) (msB n vs1) tg1 g1) (ht1 : ∀ (s : Shared) (H : Hp) (C : Addr) (cl : List (Str × Addr)) (fp : List Addr), DTs (X.blk s H scope (compEnvC scope cl C X.env) fp) ifs1 ft1)
    (he : ∀ (s : Shared) (H : Hp) (C : Addr) (cl : List (Str × Addr)) (fp : List Addr), DE (X.blk s H scope (compEnvC scope cl C X.env) fp) WF false k elt fe) (hm : i ∉ ms := by decide) (hy : X.N[i]? = some y := by rfl) (hyl : X.env.scope.names.lookup y = some .local := by rfl)
    (hsw : swapsWith (.ListComp elt [⟨tg, iter, ifs, 0⟩, ⟨tg1, iter1, ifs1, 0⟩] scope pos) (some (.Name y py)) spos.line X.env = pure true := by rfl) (hk : k.prot = true := by rfl) (hv : own.map (·.2) = vs := by rfl) (hv1 : ∀ i ∈ vs1, i ∈ own.map (·.2) := by decide)
    (ok : blkC X.N X.env.scope scope own = true := by first | rfl | decide) (hp : tgPure tg = true := by rfl) (hp1 : tgPure tg1 = true := by rfl) (hs : ∀ x, foldedSetIterable iter X.env x = pure x := by intro _; rfl) (hs1 : ∀ env x, foldedSetIterable iter1 env x = pure x := by intro _ _; rfl) :
    DS X W ms (.Assign [.Name y py] (.ListComp elt [⟨tg, iter, ifs, 0⟩, ⟨tg1, iter1, ifs1, 0⟩] scope pos) spos) (fAsg .own (fLc2 n vs fI gD ft k1 fi1 vs1 g1 ft1 fe) (gNm i)) := by
  obtain ⟨wi, p1, s1⟩ := hi.ex
  have key := ps_setLc2 (wi1 := wOfL X.K k1 fi1) (te := tOfE X.K WF false k fe) (tt := tOfT X.K WF false ft) (tt1 := tOfT X.K WF false ft1) (g := gOfP X.K (msB n vs) gD) (g1 := gOfP X.K (msB n vs1) g1) (i := i) hc hN hy hyl hsw p1 (blkOk_by ok) hv1 (fun s H C cl fp => (hg s H C cl fp).canonP hp) (fun s H C cl fp => (ht s H C cl fp).run)
    (fun s H C cl fp => pi_wOfL (hi1 s H C cl fp)) (fun s H C cl fp => (hg1 s H C cl fp).canonP hp1) (fun s H C cl fp => (ht1 s H C cl fp).run) (fun s H C cl fp => (he s H C cl fp).canon) hs hs1
  refine ⟨_, ps_un key, fun Z F H env σ fp D_ hm' r h => ?_⟩
  refine (esim_lc2 (ε := ε) (n := n) (fI := fI) (gD := gD) (ft := ft) (fe := fe) (k1 := k1) (fi1 := fi1) (g1 := g1) (ft1 := ft1) (vs1 := vs1) hk s1 hv Z F H env σ fp (fun v H' => gName i v σ H' D_.nx) r (SPost.bind h fun d e1 h1 F1 H1 fp1 v fr ev r1 rp ko => ?_) :)
  cases q : (mdOf .own e1).bind fun md => gNm i md d e1 with
  | none => rw [q] at h1; exact h1.elim
  | some e2 =>
    rw [q] at h1
    rw [Option.bind_eq_some_iff] at q
    obtain ⟨md, q1, q2⟩ := q
    exact gsim_name (b := true) hm Z F H env fp F1 H1 e1 σ fp1 v d fr md D_.nx hm' (ev.mono (fun _ => rfl) fun z => by cases z) r1 rp (VMo.of_kd r ev r1 ko q1) ⟨e2, q2, fun σ' F' H' fp' _ ev' r' _ _ => h1 F' H' fp' σ' ev' r'⟩
end
end DL
namespace DL
open PySem PySem.Spec PyProof.Rows L2
def ins {α : Type} (le : α → α → Bool) (x : α) : List α → List α
  | [] => [x]
  | y :: l => if le x y = true then x :: y :: l else y :: ins le x l
section
variable {α : Type} {le : α → α → Bool}
end
section
variable {K : PySem.W.Frag} {F H : Hp}
end
def maxI : List Int → Option Int
  | [] => none
  | x :: l => some (l.foldl (fun a b => if a < b then b else a) x)
theorem foldmax : ∀ (l : List Int) (x : Int), l.foldl (fun a b => if a < b then b else a) x ∈ x :: l ∧ ∀ y ∈ x :: l, y ≤ l.foldl (fun a b => if a < b then b else a) x
  | [], x => ⟨List.mem_cons_self .., fun y hy => by rw [List.mem_singleton.mp hy]; exact Int.le_refl _⟩
  | z :: l, x => by
    obtain ⟨h1, h2⟩ := foldmax l (if x < z then z else x)
    rw [List.foldl_cons]
    refine ⟨?_, fun y hy => ?_⟩
    · rcases List.mem_cons.mp h1 with e | e
      · rw [e]
        split <;> simp
      · exact List.mem_cons_of_mem _ (List.mem_cons_of_mem _ e)
    · have h0 := h2 _ (List.mem_cons_self ..)
      have hx : x ≤ (if x < z then z else x) ∧ z ≤ (if x < z then z else x) := by split <;> omega
      rcases List.mem_cons.mp hy with rfl | hy
      · omega
      · rcases List.mem_cons.mp hy with rfl | hy
        · omega
        · exact h2 y (List.mem_cons_of_mem _ hy)
theorem maxI_ok {l : List Int} {m : Int} (h : maxI l = some m) : m ∈ l ∧ ∀ y ∈ l, y ≤ m := by
  cases l with
  | nil => cases h
  | cons x l => cases h; exact foldmax l x
end DL
namespace DL
open PySem PySem.Spec L2
def compM (vs : List Nat) (g : D → Evn → Option Evn) (ft : FT) (fe : FE) : List D → Evn → Option (List D × Evn)
  | [], env => some ([], env)
  | x :: xs, env => match g x env with
    | none => none
    | some e1 => match ft e1 with
      | .ok true e2 => (match fe e2 with
        | .ok d e3 => (compM vs g ft fe xs (deadM vs e3)).map fun r => (d :: r.1, r.2)
        | _ => none)
      | .ok false e2 => compM vs g ft fe xs (deadM vs e2)
      | _ => none
def fLcM (n : Nat) (vs : List Nat) (fI : Evn → Rs (Md × List D × Bool)) (gD : Md → D → Evn → Option Evn) (ft : FT) (fe : FE) : FE := fun env => (fI env).bind fun y e1 =>
  if (e1.length = n ∧ (vs.all fun j => decide (j < n)) = true) ∧ flat y.1 = true ∧ y.2.2 = false then (match compM vs (gChk y.1 gD) ft fe y.2.1 (deadM vs e1) with
    | some (ds, e2) => if ds.length ≤ sizeLine then .ok (.node true .lst ds) (deadM vs e2) else .stuck
    | none => .stuck) else .stuck
section
variable {K : PySem.W.Frag} {F H F1 H1 F' H' : Hp} {env env1 env' : Evn} {fp fp1 fp' : Fp} {Z : Zst} {σ σ' : L2.St} {vs : List Nat} {n : Nat}
theorem Ev.dead {F0 H0 : Hp} {env0 : Evn} {fp0 : Fp} : ∀ {js : List Nat} {env : Evn} {fp : Fp}, Ev true F0 H0 env0 fp0 F H env fp → (∀ j ∈ js, j < env.length) → Ev true F0 H0 env0 fp0 F H (deadM js env) (fpD js fp)
  | [], env, fp, e, _ => by
    have z : fpD [] fp = fp := by funext i; simp [fpD]
    rw [z]
    exact e
  | j :: js, env, fp, e, hl => by
    have hj := hl j (List.mem_cons_self ..)
    have e1 := Ev.put (s' := .dead) (f' := []) e hj (fun d h => (nomatch h)) (fun d h => (nomatch h))
    have e2 := Ev.dead (js := js) e1 fun i hi => by rw [putE_length]; exact hl i (List.mem_cons_of_mem _ hi)
    have z : fpD js (fset fp j []) = fpD (j :: js) fp := by
      funext i
      unfold fpD
      by_cases h1 : i ∈ js
      · rw [if_pos h1, if_pos (List.mem_cons_of_mem _ h1)]
      · rw [if_neg h1]
        by_cases h2 : i = j
        · subst h2
          rw [fset_same, if_pos (List.mem_cons_self ..)]
        · rw [fset_ne h2, if_neg (fun z => (List.mem_cons.mp z).elim h2 h1)]
    rw [z] at e2
    exact e2
theorem hold_deadM {js : List Nat} (hl : ∀ j ∈ js, j < env.length) {i : Nat} (h : hold (deadM js env) i) : hold env i ∧ i ∉ js := by
  rcases h with h | h
  · have z := (hold_dead hl).1.mp h
    exact ⟨.inl z.1, z.2⟩
  · have z := (hold_dead hl).2.mp h
    exact ⟨.inr z.1, z.2⟩
structure Acc (K : PySem.W.Frag) (Hb : Hp) (env2 : Evn) (fp2 : Fp) (F H : Hp) (env : Evn) (fp : Fp) (Dd : Addr) (acc : List D) (vals : List V) (facc : List Addr) : Prop where
  at_ : H Dd = some (.lst vals)
  nF : F Dd = none
  rl : RepL K F H acc vals facc
  nD : Dd ∉ facc
  old : ∀ b ∈ facc, (Hb b = none ∨ OwnA env2 fp2 b) ∧ F b = none
  ap : ∀ b, b = Dd ∨ b ∈ facc → ∀ j, hold env j → b ∉ fp j
theorem Acc.ev {Hb : Hp} {env2 : Evn} {fp2 : Fp} {ε : Bool} {Dd : Addr} {acc : List D} {vals : List V} {facc : List Addr} (a : Acc K Hb env2 fp2 F H env fp Dd acc vals facc) (e : Ev ε F H env fp F' H' env' fp') : Acc K Hb env2 fp2 F' H' env' fp' Dd acc vals facc := by
  have no : ∀ b, b = Dd ∨ b ∈ facc → ¬ OwnA env fp b := fun b hb ⟨j, hj, hm⟩ => a.ap b hb j (.inl hj) hm
  have dom : ∀ b, b = Dd ∨ b ∈ facc → H b ≠ none := fun b hb => by
    rcases hb with rfl | hb
    · rw [a.at_]; exact fun z => by cases z
    · exact RepL.dom _ _ _ a.rl b hb
  have nF : ∀ b, b = Dd ∨ b ∈ facc → F b = none → F' b = none := fun b hb h => by
    cases q : F' b with
    | none => rfl
    | some u =>
      rcases e.new b h (by rw [q]; exact fun z => by cases z) with z | z
      · exact absurd z (dom b hb)
      · exact absurd z.2 (no b hb)
  refine ⟨e.keep _ _ a.at_ fun _ => no _ (.inl rfl), nF _ (.inl rfl) a.nF, RepL.mono e.sub _ _ _ (fun b hb u hu => hu.same fun o ho => e.keep b o ho fun _ => no b (.inr hb)) a.rl, a.nD, fun b hb => ⟨(a.old b hb).1, nF b (.inr hb) (a.old b hb).2⟩, fun b hb j hj hm => ?_⟩
  rcases hj with hj | hj
  · rcases e.own b ⟨j, hj, hm⟩ with z | z
    · exact dom b hb z
    · exact no b hb z
  · obtain ⟨i, hi, hm'⟩ := e.lk b ⟨j, hj, hm⟩
    exact a.ap b hb i (.inr hi) hm'
theorem Acc.dead {Hb : Hp} {env2 : Evn} {fp2 : Fp} {Dd : Addr} {acc : List D} {vals : List V} {facc : List Addr} (a : Acc K Hb env2 fp2 F H env fp Dd acc vals facc) (hl : ∀ j ∈ vs, j < env.length) : Acc K Hb env2 fp2 F H (deadM vs env) (fpD vs fp) Dd acc vals facc :=
  ⟨a.at_, a.nF, a.rl, a.nD, a.old, fun b hb j hj hm => by
    obtain ⟨h1, h2⟩ := hold_deadM hl hj
    unfold fpD at hm
    rw [if_neg h2] at hm
    exact a.ap b hb j h1 hm⟩
theorem Acc.push {Hb : Hp} {env2 : Evn} {fp2 : Fp} {Dd : Addr} {acc : List D} {vals : List V} {facc : List Addr} {d : D} {v : V} {fr : List Addr} (a : Acc K Hb env2 fp2 F H env fp Dd acc vals facc) (rp : Rep K F H d v fr) (h1 : ∀ b ∈ fr, (Hb b = none ∨ OwnA env2 fp2 b) ∧ F b = none) (h2 : ∀ b ∈ fr, ∀ j, hold env j → b ∉ fp j) (h3 : Dd ∉ fr) (h4 : ∀ b ∈ facc, b ∉ fr)
    : Acc K Hb env2 fp2 F (upd H Dd (.lst (vals ++ [v]))) env fp Dd (acc ++ [d]) (vals ++ [v]) (facc ++ fr) := by
  have nDa : Dd ∉ facc ++ fr := fun z => (List.mem_append.mp z).elim a.nD h3
  refine ⟨upd_same, a.nF, (a.rl.app (.one rp) h4).at_upd nDa, nDa, fun b hb => ?_, fun b hb => ?_⟩
  · rcases List.mem_append.mp hb with hb | hb
    · exact a.old b hb
    · exact h1 b hb
  · rcases hb with rfl | hb
    · exact a.ap _ (.inl rfl)
    · rcases List.mem_append.mp hb with hb | hb
      · exact a.ap b (.inr hb)
      · exact h2 b hb
theorem R.atD {Dd : Addr} {u u' : HO} (r : R K Z F H env σ fp) (h : H Dd = some u) (hF : F Dd = none) (ap : ∀ j, hold env j → Dd ∉ fp j) (hB : ¬ Z.B Dd) (nz : notFz u' = true := by rfl) : R K Z F (upd H Dd u') env σ fp := by
  have fe : FEv F H (fun a => a = Dd) F (upd H Dd u') := by
    refine ⟨fun a o ho n => by rw [upd_ne n]; exact ho, fun _ _ h => h, fun a h n => absurd h n, fun a ha => ?_, fun a u ha => ?_, nofz_upd nz⟩
    · by_cases z : a = Dd
      · rw [z, upd_same]; exact fun z => by cases z
      · rw [upd_ne z]; exact ha
    · have ne : a ≠ Dd := fun z => by rw [z, hF] at ha; cases ha
      exact (r.sub a u ha).same fun o ho => by rw [upd_ne ne]; exact ho
  exact r.out fe (fun a ha => by rw [ha]; exact fun ⟨j, hj, hm⟩ => ap j hj hm) fun a ha => by rw [ha]; exact hB
theorem Ev.atD {Hb : Hp} {Fb : Hp} {env2 : Evn} {fp2 : Fp} {Dd : Addr} {u' : HO} (e : Ev true Fb Hb env2 fp2 F H env fp) (hb : Hb Dd = none) (nz : notFz u' = true := by rfl) : Ev true Fb Hb env2 fp2 F (upd H Dd u') env fp :=
  ⟨fun a o ho n => by
    have ne : a ≠ Dd := fun z => by rw [z, hb] at ho; cases ho
    rw [upd_ne ne]
    exact e.keep a o ho n, e.sub, e.new, e.own, e.lks, fun a o u h => e.nofz a o u (nofz_upd nz a o u h), fun a ha => by
    by_cases z : a = Dd
    · rw [z, upd_same]; exact fun z => by cases z
    · rw [upd_ne z]; exact e.dom a ha, fun z => by cases z⟩
theorem comp_simM {Z2 : Zst} {F1 Hb : Hp} {env2 : Evn} {fp2 : Fp} {σ2 : L2.St} {J : It} {xs : List D} {md : Md} {Dd : Addr} {ds : List D} {eF : Evn} {k : Kd} {gD : Md → D → Evn → Option Evn} {ft : FT} {fe : FE} {QQ : Hp → Prop} (hk : k.prot = true) (hZn : Z2.n = n) (hvs : ∀ j ∈ vs, j < n)
    (r0 : R K Z2 F1 Hb env2 σ2 fp2) (io : IOk K Z2 F1 Hb env2 fp2 J xs md) (fl : flat md = true) (hD : Hb Dd = none) (hpin : ∀ p ∈ Z2.pins, p.1 ∈ msB n vs) (hpins : ∀ j, j ∉ vs → j < Z2.n → ∃ v, (j, v) ∈ Z2.pins) (hσ : ∀ j ∈ vs, j < Z2.n → σ2[j]? = some none)
    (hc : compM vs (gChk md gD) ft fe xs env2 = some (ds, eF)) (hl : ds.length ≤ sizeLine)
    (hq : ∀ F H fp vals facc, R K Z2 F H eF σ2 fp → Ev true F1 Hb env2 fp2 F H eF fp → Acc K Hb env2 fp2 F H eF fp Dd ds vals facc → QQ H) :
    ∃ W : Nat → Nat → Hp → Prop, (∃ m, W 0 m (upd Hb Dd (.lst []))) ∧ ∀ i m H, W i m H →
      (J.stop i H ∧ QQ H) ∨ (J.go i H ∧ ∃ Nx : Hp → Prop, (∀ H', Nx H' → ∃ m', m' < m ∧ W (i + 1) m' H') ∧ ∀ x H', J.yld i H x H' → gOfP K (msB n vs) gD x σ2 H' fun σ3 H3 => wipe σ3 vs = σ2 ∧ tOfT K WF false ft σ3 H3 fun b H4 =>
        if b = true then tOfE K WF true k fe σ3 H4 fun y H5 => ∃ acc, H5 Dd = some (.lst acc) ∧ acc.length < sizeLine ∧ Nx (upd H5 Dd (.lst (acc ++ [y]))) else Nx H4) := by
  have hF0 : F1 Dd = none := by
    cases q : F1 Dd with
    | none => rfl
    | some u => exact absurd hD (r0.sub Dd u q).ne
  have hBD : ¬ Z2.B Dd := fun z => r0.domB Dd z hD
  let P : Nat → Hp → Prop := fun i H => i ≤ xs.length ∧ ∃ F env fp acc vals facc rest, R K Z2 F H env σ2 fp ∧ Ev true F1 Hb env2 fp2 F H env fp ∧ Acc K Hb env2 fp2 F H env fp Dd acc vals facc ∧ compM vs (gChk md gD) ft fe (xs.drop i) env = some (rest, eF) ∧ acc ++ rest = ds
  have start : P 0 (upd Hb Dd (.lst [])) := by
    have gr := Grow.upd (o := .lst []) r0.sub hD
    exact ⟨Nat.zero_le _, F1, env2, fp2, [], [], [], ds, r0.grow gr, gr.ev, ⟨upd_same, hF0, ⟨rfl, rfl⟩, by simp, (fun b hb => nomatch hb), fun b hb j hj hm => by
      rcases hb with rfl | hb
      · exact r0.hold_dom hj hm hD
      · cases hb⟩, hc, rfl⟩
  refine ⟨fun i m H => m = xs.length - i ∧ P i H, ⟨xs.length, rfl, start⟩, ?_⟩
  rintro i m H ⟨rfl, hi, F, env, fp, acc, vals, facc, rest, r1, ev1, a1, hr, hds⟩
  by_cases hlt : i < xs.length
  case neg =>
    refine .inl ⟨io.stop F H env fp σ2 i ev1 r1 (by omega), ?_⟩
    rw [List.drop_eq_nil_of_le (by omega)] at hr
    cases hr
    rw [List.append_nil] at hds
    subst hds
    exact hq F H fp vals facc r1 ev1 a1
  obtain ⟨hgo, hy⟩ := io.go F H env fp σ2 i _ ev1 r1 (flat_root fl _) (List.getElem?_eq_getElem hlt)
  refine .inr ⟨hgo, P (i + 1), fun H' hP => ⟨xs.length - (i + 1), by omega, rfl, hP⟩, fun x H' hyx => ?_⟩
  obtain ⟨F', fr, g2, rp, vm⟩ := hy x H' hyx
  rw [List.drop_eq_getElem_cons hlt] at hr
  unfold compM at hr
  cases qg : gChk md gD xs[i] env with
  | none => rw [qg] at hr; cases hr
  | some e1 =>
  rw [qg] at hr
  simp only at hr
  have qg' : gD md xs[i] env = some e1 := by
    unfold gChk at qg
    rw [if_pos (flat_root fl _)] at qg
    exact qg
  refine ⟨Z2, F', H', env, fp, F', env, fp, xs[i], fr, md, hpin, Ev.refl (Z := Z2) _ rfl, r1.grow g2, rp, vm H' env fp, e1, qg', fun σ3 F3 H3 fp3 g3 ev3 r3 => ?_⟩
  have l3 := r3.len.1
  have hw : wipe σ3 vs = σ2 := by
    apply List.ext_getElem?
    intro j
    have l2 := r0.len.1
    by_cases hj : j < Z2.n
    · by_cases hv : j ∈ vs
      · rw [wipe_in hv (by rw [l3]; exact hj), hσ j hv hj]
      · rw [wipe_out hv]
        obtain ⟨v, hp⟩ := hpins j hv hj
        have z1 := r3.pin _ hp
        have z2 := r0.pin _ hp
        rw [z1, z2]
    · rw [List.getElem?_eq_none (by rw [wipe_length, l3]; omega), List.getElem?_eq_none (by rw [l2]; omega)]
  refine ⟨hw, Z2, F3, e1, fp3, r3, ?_⟩
  have a2 := a1.ev (g2.ev (ε := false))
  have a3 := a2.ev ev3
  have ev13 : Ev true F1 Hb env2 fp2 F3 H3 e1 fp3 := ((ev1.trans (g2.ev (ε := false))).trans ev3).mono (fun _ => rfl) fun z => by cases z
  -- back at the state ahead of the next turn
  have close : ∀ {F5 H5 : Hp} {e5 : Evn} {fp5 : Fp} {accN : List D} {valsN : List V} {faccN : List Addr} {rest' : List D}, R K Z2 F5 H5 e5 σ3 fp5 → Ev true F1 Hb env2 fp2 F5 H5 e5 fp5 → Acc K Hb env2 fp2 F5 H5 e5 fp5 Dd accN valsN faccN → compM vs (gChk md gD) ft fe (xs.drop (i + 1)) (deadM vs e5) = some (rest', eF) → accN ++ rest' = ds → P (i + 1) H5 := by
    intro F5 H5 e5 fp5 accN valsN faccN rest' r5 ev5 a5 hr5 hd5
    have hl5 : ∀ j ∈ vs, j < e5.length := fun j hj => by rw [r5.len.2, hZn]; exact hvs j hj
    have rd := r5.dead hl5
    refine ⟨by omega, F5, deadM vs e5, fpD vs fp5, accN, valsN, faccN, rest', ?_, ev5.dead hl5, a5.dead hl5, hr5, hd5⟩
    refine rd.sigma (fun j hj => ?_) (by rw [← hw, wipe_length]) rfl rfl rfl fun p hp => ?_
    · by_cases hjv : j ∈ vs
      · exact dead_at hjv (hl5 j hjv)
      · rw [← hw, wipe_out hjv] at hj
        exact absurd rfl hj
    · exact r0.pin p hp
  cases qt : ft e1 with
  | exc c x e => rw [qt] at hr; cases hr
  | stuck => rw [qt] at hr; cases hr
  | ok b e4 =>
  intro F4 H4 fp4 ev4 r4
  obtain ⟨ee4, ef4⟩ := ev4.pure rfl
  subst ee4 ef4
  have a4 := a3.ev ev4
  have ev14 : Ev true F1 Hb env2 fp2 F4 H4 e4 fp4 := (ev13.trans ev4).mono (fun _ => rfl) fun z => by cases z
  cases b with
  | false =>
    rw [qt] at hr
    simp only at hr
    exact close r4 ev14 a4 hr hds
  | true =>
  rw [qt] at hr
  simp only at hr
  simp only [if_true]
  cases qe : fe e4 with
  | exc c x e => rw [qe] at hr; cases hr
  | stuck => rw [qe] at hr; cases hr
  | ok d e5 =>
  rw [qe] at hr
  simp only at hr
  rw [Option.map_eq_some_iff] at hr
  obtain ⟨⟨rest', eF'⟩, hr', he⟩ := hr
  cases he
  refine ⟨Z2, F4, e4, fp4, r4, ?_⟩
  rw [qe]
  intro F5 H5 fp5 y fy ev5 r5 rp5 ko5
  have a5 := a4.ev ev5
  have ev15 : Ev true F1 Hb env2 fp2 F5 H5 e5 fp5 := (ev14.trans ev5).mono (fun _ => rfl) fun z => by cases z
  have hlen : vals.length < sizeLine := by
    rw [a1.rl.len]
    rw [← hds] at hl
    simp at hl
    omega
  have key : (∀ b ∈ fy, (Hb b = none ∨ OwnA env2 fp2 b) ∧ F5 b = none) ∧ (∀ b ∈ fy, ∀ j, hold e5 j → b ∉ fp5 j) ∧ Dd ∉ fy ∧ ∀ b ∈ facc, b ∉ fy := by
    cases k with
    | own =>
      have ap := r4.apart ev5 ko5
      have no : ∀ b, b = Dd ∨ b ∈ facc → b ∉ fy := fun b hb hm => by
        have dom : H4 b ≠ none := by
          rcases hb with rfl | hb
          · rw [a4.at_]; exact fun z => by cases z
          · exact RepL.dom _ _ _ a4.rl b hb
        rcases (ko5 b hm).1 with z | ⟨j, hj, hm'⟩
        · exact dom z
        · exact a4.ap b hb j (.inl hj) hm'
      refine ⟨fun b hb => ⟨?_, (ko5 b hb).2.2⟩, fun b hb j hj => ap.1 j hj b hb, no Dd (.inl rfl), fun b hb => no b (.inr hb)⟩
      rcases (ko5 b hb).1 with z | z
      · exact .inl (ev14.nd z)
      · exact ev14.own b z
    | frz =>
      have z : fy = [] := ko5
      subst z
      exact ⟨(fun b hb => nomatch hb), (fun b hb => nomatch hb), by simp, by simp⟩
    | bor _ => cases hk
  obtain ⟨k1, k2, k3, k4⟩ := key
  refine ⟨vals, a5.at_, hlen, ?_⟩
  exact close (r5.atD a5.at_ a5.nF (a5.ap Dd (.inl rfl)) hBD) (ev15.atD hD) (a5.push rp5 k1 k2 k3 k4) hr' (by rw [← hds]; simp)
end
section
variable {X : Cx} {W : WX} {ε : Bool} {k : Kd} {tg iter elt c : Expr} {ifs : List Expr} {scope : Scope} {own : List (Str × Nat)} {pos : Pos} {fI : Evn → Rs (Md × List D × Bool)} {gD : Md → D → Evn → Option Evn} {ft : FT} {fe : FE} {n : Nat} {vs : List Nat} {ms : List Nat}
theorem hang_flat {md : Md} {fp1 : Fp} {env2 : Evn} {fp2 : Fp} (h : flat md = true) : hang md fp1 env2 fp2 := by
  cases md with
  | own => trivial
  | bor m => cases m with
    | none => trivial
    | some m => cases h
theorem esim_lcM {wi : TI} (hk : k.prot = true) (s1 : ISim X W ε wi fI) (hv : own.map (·.2) = vs) : ESim X.K W true .own (tUnE X (tLc wi (gOfP X.K (msB n vs) gD) (tOfT X.K WF false ft) (tOfE X.K WF true k fe) (own.map (·.2)))) (fLcM n vs fI gD ft fe) := by
  intro Z F H env σ fp Q r h
  rw [hv]
  refine s1 Z F H env σ fp _ r (Post.bind h (fun _ => rfl) (fun z => by cases z) fun y e1 h1 F1 H1 fp1 J lk ev r1 hh hl io => ?_)
  intro Dd hD
  split at h1
  case isFalse => exact h1.elim
  rename_i hcond
  obtain ⟨⟨hlen, hall⟩, hfl, hnl⟩ := hcond
  have elk : lk = none := by
    cases lk with
    | none => rfl
    | some l =>
      have z := hl.1
      rw [hnl] at z
      cases z
  subst elk
  cases qc : compM vs (gChk y.1 gD) ft fe y.2.1 (deadM vs e1) with
  | none => rw [qc] at h1; exact h1.elim
  | some w =>
    obtain ⟨ds, e2⟩ := w
    rw [qc] at h1
    simp only at h1
    split at h1
    case isFalse => exact h1.elim
    rename_i hz
    have hvs : ∀ j ∈ vs, j < n := fun j hj => by
      have := List.all_eq_true.mp hall j hj
      simpa using this
    have hZn : Z.n = n := by rw [← r1.len.2, hlen]
    have hvl : ∀ j ∈ vs, j < e1.length := fun j hj => by rw [hlen]; exact hvs j hj
    let Z2 : Zst := ⟨Z.B, PinsOf n vs σ, Z.n, Z.gh⟩
    have hσl : σ.length = n := by rw [r1.len.1, hZn]
    have rD := r1.dead hvl
    have rS : R X.K Z2 F1 H1 (deadM vs e1) (wipe σ vs) (fpD vs fp1) := by
      refine rD.sigma (fun j hj => ?_) (wipe_length σ vs) rfl rfl rfl fun p hp => pinsOf_at p hp
      by_cases hjv : j ∈ vs
      · exact dead_at hjv (hvl j hjv)
      · exact absurd (wipe_out hjv) hj
    have io' := io Z2 _ _ _ rfl (hang_flat hfl) rS
    have ev1 : Ev true F H env fp F1 H1 e1 fp1 := ev.mono (fun _ => rfl) (fun z => by cases z)
    have evD : Ev true F H env fp F1 H1 (deadM vs e1) (fpD vs fp1) := ev1.dead hvl
    refine comp_simM (n := n) (vs := vs) (Z2 := Z2) (QQ := fun H' => Un1 X (Q (.ref Dd)) H') hk hZn hvs rS io' hfl hD pinsOf_ms (fun j hj hjn => pinsOf_ex hσl j hj (by have z : j < Z.n := hjn; omega)) (fun j hj hjn => wipe_in hj (by have z : j < Z.n := hjn; omega)) qc hz fun F2 H2 fp2 vals facc r2 ev2 ac => .inl ?_
    have hl2 : ∀ j ∈ vs, j < e2.length := fun j hj => by
      rw [r2.len.2]
      have z := hvs j hj
      show j < Z.n
      omega
    have r2d := r2.dead hl2
    have rB : R X.K Z F2 H2 (deadM vs e2) σ (fpD vs fp2) := by
      refine r2d.sigma (fun j hj => ?_) (by rw [wipe_length]) rfl rfl rfl fun p hp => r.pin p hp
      by_cases hjv : j ∈ vs
      · exact dead_at hjv (hl2 j hjv)
      · exact absurd (wipe_out hjv).symm hj
    have evT : Ev true F H env fp F2 H2 (deadM vs e2) (fpD vs fp2) := ((evD.trans ev2).mono (ε1 := true) (fun _ => rfl) (fun z => by cases z)).dead hl2
    have ad := ac.dead hl2
    refine h1 F2 H2 (fpD vs fp2) (.ref Dd) (Dd :: facc) evT rB ?_ fun a ha => ?_
    · rw [Rep]
      exact ⟨Dd, .lst vals, vals, facc, rfl, rfl, .inl ac.at_, rfl, ac.nD, (fun z => by cases z), ac.rl⟩
    · rcases List.mem_cons.mp ha with rfl | ha
      · exact ⟨.inl (ev.nd hD), fun ⟨j, hj, hm⟩ => ad.ap _ (.inl rfl) j (.inl hj) hm, ac.nF⟩
      · refine ⟨?_, fun ⟨j, hj, hm⟩ => ad.ap _ (.inr ha) j (.inl hj) hm, (ac.old a ha).2⟩
        rcases (ac.old a ha).1 with z | z
        · exact .inl (ev.nd z)
        · exact evD.own a z
theorem de_lcM (n : Nat) (vs : List Nat) (own : List (Str × Nat)) (hc : X.calm = true) (hN : X.N.Nodup) (hi : DI X W ε tg iter fI)
    (hg : ∀ (s : Shared) (H : Hp) (C : Addr) (cl : List (Str × Addr)) (fp : List Addr), DG (X.blk s H scope (compEnvC scope cl C X.env) fp) (msB n vs) tg gD) (ht : ∀ (s : Shared) (H : Hp) (C : Addr) (cl : List (Str × Addr)) (fp : List Addr), DTs (X.blk s H scope (compEnvC scope cl C X.env) fp) ifs ft)
    (he : ∀ (s : Shared) (H : Hp) (C : Addr) (cl : List (Str × Addr)) (fp : List Addr), DE (X.blk s H scope (compEnvC scope cl C X.env) fp) WF true k elt fe) (hk : k.prot = true := by rfl) (hv : own.map (·.2) = vs := by rfl)
    (ok : blkC X.N X.env.scope scope own = true := by first | rfl | decide) (hp : tgPure tg = true := by rfl) (hs : ∀ x, foldedSetIterable iter X.env x = pure x := by intro _; rfl) : DE X W true .own (.ListComp elt [⟨tg, iter, ifs, 0⟩] scope pos) (fLcM n vs fI gD ft fe) := by
  obtain ⟨wi, p1, s1⟩ := hi.ex
  exact ⟨_, pe_un (pe_lc (te := tOfE X.K WF true k fe) (tt := tOfT X.K WF false ft) (g := gOfP X.K (msB n vs) gD) hc hN p1 (blkOk_by ok) (fun s H C cl fp => (hg s H C cl fp).canonP hp) (fun s H C cl fp => (ht s H C cl fp).run) (fun s H C cl fp => (he s H C cl fp).canon) hs), esim_lcM hk s1 hv⟩
end
end DL
namespace DL
open PySem PySem.Spec PyProof.Rows L2
def fSm (g : Str → D → Option D) (f fa : FE) : FE := fun env => (f env).bind fun d e1 => match d with
  | .str z => (fa e1).bind fun y e2 => optR (g z y) e2
  | _ => .stuck
section
variable {X : Cx} {W : WX} {ε1 ε2 : Bool} {k1 k2 : Kd} {o e : Expr} {f fa : FE} {name : Str} {apos pos : Pos} {id : String} {r : V → List V → Hp → VK → Prop} {g : Str → D → Option D}
end
section
variable {X : Cx} {W : WX} {ε1 ε2 : Bool} {k1 k2 : Kd} {o e : Expr} {f fa : FE} {apos pos : Pos}
end
end DL
namespace DL
open PySem PySem.Spec PyProof.Rows L2 LamX
section
variable {P : Program} {w : World} {K : PySem.W.Frag} {mg : Str → Option Value} {base : Heap} {x qual : Str} {params : Arguments} {body : List Stmt} {scope : Scope} {dvs : List V} {kws : List (Str × V)} {f : Addr} {fd : FuncData}
end
section
variable {X : Cx} {W : WX} {ε : Bool} {n j k : Nat} {f fA : Addr} {fd : FuncData} {ps ks : List Str} {kinds : List Bool} {Fx : List D → Fo} {gG : List Value → List Value → List Value} {gV : List V → List V → List V} {t : TAK} {es : List Expr} {kws : List Keyword} {x : Str} {p pos : Pos} {ar : List Ar} {cs : List CK} {fa : FA}
end
end DL
namespace DL
open PySem PySem.Spec PyProof.Rows L2 LamX
structure WSuite (X : Cx) (i j : Nat) (suite : List Stmt) (ts : Addr → Value → Option Addr → TS) : Prop where
  ps : ∀ (a : Addr) (oe : Obj) (cls : Value) (d : Option Addr) (pn : List (Addr × Obj)), Zc cls d oe → (∃ vs, oe.data = .fields vs) → PSs (X.suite a ((a, oe) :: pn)) suite (ts a cls d)
  rd : ∀ (D_ : Ends) (σ : L2.St) (H : Hp) (a dd : Addr) (c : Str) (fs : List (Str × V)) (w : V), fldB X.K c [("word" : Str)] = true → H dd = some (.xd fs) → fs.lookup ("word" : Str) = some w → σ[i]? = some (some (.ref a)) →
    D_.nx (σ.set j (some w)) H → ts a (.ref (He.ga X.K c)) (some dd) D_ σ H
inductive WHs (X : Cx) (i j : Nat) : List ExceptHandler → List (List Str) → Prop
  | nil : WHs X i j [] []
  | cons {t : Expr} {cs : List Str} {n : Str} {ts : Addr → Value → Option Addr → TS} {b₀ : Stmt} {suite : List Stmt} {pos' : Pos} {hds : List ExceptHandler} {l : List (List Str)}
      (hc : XT X t (cs.map fun y => .ref (He.ga X.K y))) (hN : X.N.Nodup) (hi : X.N[i]? = some n) (hk : X.env.kindOf n = some .local) (hs : WSuite X i j (b₀ :: suite) ts) (r : WHs X i j hds l) : WHs X i j (.ExceptHandler (some t) (some n) (b₀ :: suite) pos' :: hds) (cs :: l)
section
variable {K : PySem.W.Frag} {W : WX} {ε : Bool} {k : Kd} {cs : List Str} {fb : FE} {Z : Zst} {F H F1 H1 : Hp} {env e1 : Evn} {σ : L2.St} {fp fp1 : Fp} {Q : VK}
end
end DL
namespace DL
open PySem PySem.Spec PyProof.Rows L2 LamX
section
variable {X : Cx} {W : WX} {kd : Kd} {x y q : Str} {i k kc : Nat} {f c : Addr} {pm ctv : Value} {params : Arguments} {body : Expr} {scope : Scope} {fb : FE} {p p1 p2 py pos : Pos}
end
end DL
namespace DL
open PySem PySem.Spec PyProof.Rows L2
section
variable {K : PySem.W.Frag} {F H F' H' : Hp} {env env' : Evn} {fp fp' : Fp} {Z : Zst} {σ : L2.St}
theorem Loose.kill {a : Addr} {k : Nat} (h : Loose Z F H env fp a) : Loose Z F H (putE k .dead env) (fset fp k []) a := by
  obtain ⟨h1, h2, h3, h4⟩ := h
  refine ⟨h1, fun j hj hm => ?_, h3, h4⟩
  by_cases e : j = k
  · subst e
    rw [fset_same] at hm
    cases hm
  · rw [fset_ne e] at hm
    exact h2 j (hj.imp (isOwn_put e).mp (isLk_put e).mp) hm
theorem RepL.same {xs : List D} {vs : List V} {f : List Addr} (hF : ∀ a u, F a = some u → F' a = some u) (h : RepL K F H xs vs f) (hs : ∀ b ∈ f, H' b = H b) : RepL K F' H' xs vs f :=
  RepL.mono hF _ _ _ (fun b hb w hw => hw.same fun o ho => by rw [hs b hb]; exact ho) h
end
section
variable {X : Cx} {W : WX} {ms : List Nat} {i k : Nat} {x y : Str} {body : List Stmt} {fb : FS} {px py pos : Pos}
end
end DL
namespace DL
open PySem PySem.Spec PyProof.Rows L2
section
variable {X : Cx} {W : WX} {ε ε1 ε2 : Bool} {k k1 k2 : Kd} {e e1 e2 : Expr} {f f1 f2 : FE} {p pos apos cpos : Pos}
end
end DL
namespace DL
open PySem PySem.Spec PyProof.Rows L2
section
variable {X : Cx} {W : WX} {ε : Bool} {n kk kc : Nat} {fA : Addr} {fd : FuncData} {ps ks : List Str} {kinds : List Bool} {Fx : List D → Fo} {es : List Expr} {kws : List Keyword} {x : Str} {p pos : Pos} {ar : List Ar} {cs : List CK} {fa : FA}
end
end DL
namespace DL
open PySem PySem.Spec PyProof.Rows L2
def rEq0 (K : PySem.W.Frag) (b : Bool) : R2 := fun x y H Q => ∃ (p q : Addr) (xs : List V), x = .ref p ∧ y = .ref q ∧ SqL K H p xs ∧ SqL K H q [] ∧ Q (.bl (xs.isEmpty == b)) H
theorem op_eq0 {X : Cx} (hu : X.A.units + 1 < cLine) : OpR X (compareOp .Eq) (rEq0 X.K true) := by
  intro pins s σ H x y v u Q I rx ry ⟨p, q, xs, ex, ey, hp, hq, h⟩
  subst ex ey
  cases (show v = Value.ref p from rx)
  cases (show u = Value.ref q from ry)
  obtain ⟨us, r1, p1, _⟩ := I.list hp
  obtain ⟨ws, r2, p2, _⟩ := I.list hq
  cases r2
  have hl := r1.length
  cases xs with
  | nil =>
    cases r1
    exact SeqAt.eq_listAt (e := fun _ => true) p1.isList p2.isList rfl (by omega) (fun j h1 => absurd h1 (by simp)) ⟨.bl true, H, I, rfl, h⟩
  | cons x xs =>
    refine SeqAt.eq_list_lengthsAt p1.isList p2.isList ?_ (by omega) ⟨.bl false, H, I, rfl, h⟩
    rw [bne_iff_ne]
    simp only [List.size_toArray, List.length_nil]
    rw [← hl]
    simp
def oEq0 (b : Bool) : List D → Option D
  | [.node _ .lst xs, .node _ .lst []] => some (.bl (xs.isEmpty == b))
  | _ => none
theorem ok_eq0 {K : PySem.W.Frag} {b : Bool} : OpOk K (l2 (rEq0 K b)) (oEq0 b) := by
  intro F H ds vs frs d Q hs rep e q
  unfold oEq0 at e
  split at e
  · rename_i o xs o2
    cases e
    obtain ⟨y, w, f, g, rfl, rfl, h1, h2⟩ := rep.two
    obtain ⟨a, ws, fq, rfl, ha, rl, sb⟩ := h1.lst hs
    obtain ⟨a2, ws2, fq2, rfl, ha2, rl2, sb2⟩ := h2.lst hs
    obtain rfl : ws2 = [] := rl2.1
    refine ⟨a, a2, ws, rfl, rfl, .inl (.inl ha), .inl (.inl ha2), ?_⟩
    have e : ws.isEmpty = xs.isEmpty := by
      have := rl.len
      cases ws <;> cases xs <;> simp_all
    rw [e]
    exact same_q hs (.plain rfl) q
  · cases e
end DL
namespace DL
open PySem PySem.Spec PyProof.Rows L2
end DL
namespace DL
open PySem PySem.Spec PyProof.Rows L2
section
variable {K : PySem.W.Frag} {Z : Zst} {F1 H1 : Hp} {env1 : Evn} {fp1 : Fp}
end
section
variable {X : Cx} {W : WX} {ε : Bool} {k : Kd} {ks : List Kd} {ms : List Nat} {tg e a b c : Expr} {body : List Stmt} {fe : FE} {fa : FA} {gD : Md → D → Evn → Option Evn} {fb : FS} {pos p : Pos}
end
end DL
namespace DL
open PySem PySem.Spec L2
abbrev ApL (frs : List (List Addr)) : Prop := frs.Pairwise fun f g => ∀ a ∈ f, a ∉ g
theorem apL_of : ∀ {frs : List (List Addr)}, (∀ (i j : Nat) (fi fj : List Addr), i ≠ j → frs[i]? = some fi → frs[j]? = some fj → ∀ a ∈ fi, a ∉ fj) → ApL frs
  | [], _ => .nil
  | f :: frs, h => .cons (fun g hg => by
      obtain ⟨n, hn, e⟩ := List.mem_iff_getElem.mp hg
      exact h 0 (n + 1) f g (by omega) rfl (by rw [List.getElem?_cons_succ, List.getElem?_eq_getElem hn, e])) (apL_of fun i j fi fj hij h1 h2 => h (i + 1) (j + 1) fi fj (by omega) (by simpa using h1) (by simpa using h2))
theorem apL_get : ∀ {frs : List (List Addr)}, ApL frs → ∀ (i j : Nat) (fi fj : List Addr), i ≠ j → frs[i]? = some fi → frs[j]? = some fj → ∀ a ∈ fi, a ∉ fj
  | [], _, i, j, fi, fj, _, h, _ => by simp at h
  | f :: frs, h, i, j, fi, fj, hij, h1, h2 => by
    cases h with
    | cons p q =>
      cases i with
      | zero =>
        cases j with
        | zero => exact absurd rfl hij
        | succ j =>
          simp at h1
          subst h1
          exact p fj (List.mem_of_getElem? (by simpa using h2))
      | succ i =>
        cases j with
        | zero =>
          simp at h2
          subst h2
          exact fun a ha hb => p fi (List.mem_of_getElem? (by simpa using h1)) a hb ha
        | succ j => exact apL_get q i j fi fj (by omega) (by simpa using h1) (by simpa using h2)
section
variable (K : PySem.W.Frag)
structure Grp (F H : Hp) (v : V) (fp : List Addr) (ds : List D) (vs : List V) (frs : List (List Addr)) (put : List D → Option D) : Prop where
  rep : RepA K F H ds vs frs
  sub : ∀ f ∈ frs, ∀ a ∈ f, a ∈ fp
  ap : ApL frs
  put : ∀ F' H' ds' frs' d', (∀ a u, F a = some u → F' a = some u) → (∀ a ∈ fp, (∀ f ∈ frs, a ∉ f) → ∀ u, Has H a u → Has H' a u) → RepA K F' H' ds' vs frs' → ApL frs' → (∀ f ∈ frs', ∀ a ∈ f, a ∈ fp → ∃ g ∈ frs, a ∈ g) → put ds' = some d' →
    ∃ fp', Rep K F' H' d' v fp' ∧ ∀ a ∈ fp', (a ∈ fp ∧ ∀ f ∈ frs, a ∉ f) ∨ ∃ f ∈ frs', a ∈ f
end
def putW : List D → Option D
  | [d] => some d
  | _ => none
def putF (g : D → D) : List D → Option D
  | [d] => if d.frz = false then some (g d) else none
  | _ => none
def putP (g : D → D) : List D → Option D
  | [d, e] => if d.frz = false then some (g (.node true .tup [d, e])) else none
  | _ => none
section
variable {K : PySem.W.Frag} {F H F' H' : Hp} {v w x y : V} {fp fs : List Addr} {d e sub : D} {g : D → D}
theorem grp_foc (h : Foc K F H v fp w fs sub g) : Grp K F H v fp [sub] [w] [fs] (putF g) where
  rep := ⟨h.rep, trivial⟩
  sub := fun f hf a ha => by simp at hf; exact h.sub a (hf ▸ ha)
  ap := .cons (fun g hg => by cases hg) .nil
  put := fun F' H' ds' frs' d' hF hH h1 _ h3 h2 => by
    unfold putF at h2
    split at h2
    · split at h2
      · cases h2
        rename_i d1 hz
        obtain ⟨v', ws, f, fs', e1, rfl, r1, r2⟩ := h1.inv
        cases e1
        obtain ⟨_, fp', p1, p2⟩ := h.put F' H' d1 f hF (fun a ha n u hu => hH a ha (fun f' hf' hm => by simp at hf'; exact n (hf' ▸ hm)) u hu) r1 (fun a ha hm => by
          obtain ⟨g', hg, hag⟩ := h3 f (List.mem_cons_self ..) a ha hm
          simp at hg
          exact hg ▸ hag) hz
        refine ⟨fp', p1, fun a ha => ?_⟩
        rcases p2 a ha with z | z
        · exact .inl ⟨z.1, fun f' hf' hm => by simp at hf'; exact z.2 (hf' ▸ hm)⟩
        · exact .inr ⟨f, List.mem_cons_self .., z⟩
      · cases h2
    · cases h2
end
structure G where
  j : Nat
  v : V
  ds : List D
  vs : List V
  frs : List (List Addr)
  put : List D → Option D
def putAll : List (Nat × (List D → Option D)) → List D → Option (List D)
  | (n, put) :: gs, ms => (put (ms.take n)).bind fun d => (putAll gs (ms.drop n)).map (d :: ·)
  | [], [] => some []
  | [], _ :: _ => none
section
variable {K : PySem.W.Frag} {F H F' H' : Hp}
theorem RepA.split : ∀ {vs1 vs2 : List V} {ms : List D} {nfs : List (List Addr)}, RepA K F H ms (vs1 ++ vs2) nfs → RepA K F H (ms.take vs1.length) vs1 (nfs.take vs1.length) ∧ RepA K F H (ms.drop vs1.length) vs2 (nfs.drop vs1.length)
  | [], vs2, ms, nfs, h => ⟨trivial, h⟩
  | v :: vs1, vs2, [], nfs, h => h.elim
  | v :: vs1, vs2, m :: ms, [], h => h.elim
  | v :: vs1, vs2, m :: ms, f :: nfs, h => by
    obtain ⟨h1, h2⟩ := h
    obtain ⟨p, q⟩ := RepA.split h2
    exact ⟨⟨h1, p⟩, q⟩
theorem RepA.app : ∀ {ds1 ds2 : List D} {vs1 vs2 : List V} {f1 f2 : List (List Addr)}, RepA K F H ds1 vs1 f1 → RepA K F H ds2 vs2 f2 → RepA K F H (ds1 ++ ds2) (vs1 ++ vs2) (f1 ++ f2)
  | [], ds2, [], vs2, [], f2, _, h => h
  | d :: ds1, ds2, v :: vs1, vs2, f :: f1, f2, h, h' => ⟨h.1, RepA.app h.2 h'⟩
  | [], _, _ :: _, _, _, _, h, _ => h.elim
  | [], _, [], _, _ :: _, _, h, _ => h.elim
  | _ :: _, _, [], _, _, _, h, _ => h.elim
  | _ :: _, _, _ :: _, _, [], _, h, _ => h.elim
variable {env : Evn} {σ : L2.St} {fp : Fp} {Z : Zst}
structure GOk (K : PySem.W.Frag) (F H : Hp) (env : Evn) (σ : L2.St) (fp : Fp) (g : G) : Prop where
  own : isOwn env g.j
  at_ : σ[g.j]? = some (some g.v)
  grp : Grp K F H g.v (fp g.j) g.ds g.vs g.frs g.put
def GM (GS : List G) (a : Addr) : Prop := ∃ g ∈ GS, ∃ f ∈ g.frs, a ∈ f
theorem putAll_ok (r : R K Z F H env σ fp) {GS : List G} (hG : ∀ g ∈ GS, GOk K F H env σ fp g) (hF : ∀ a u, F a = some u → F' a = some u) (hH : ∀ a o, H a = some o → ¬ GM GS a → H' a = some o) (hinj : ∀ g ∈ GS, ∀ g' ∈ GS, g.j = g'.j → g = g') :
    ∀ (gs : List G) (ms ms' : List D) (nfs : List (List Addr)), (∀ g ∈ gs, g ∈ GS) → (gs.map G.j).Nodup → RepA K F' H' ms (gs.flatMap G.vs) nfs → ApL nfs → (∀ f ∈ nfs, ∀ a ∈ f, H a = none ∨ GM GS a) →
      (∀ f ∈ nfs, ∀ a ∈ f, ∀ g ∈ GS, g ∉ gs → True) → putAll (gs.map fun g => (g.vs.length, g.put)) ms = some ms' →
      ∃ nfs', RepA K F' H' ms' (gs.map G.v) nfs' ∧ ApL nfs' ∧ ∀ f' ∈ nfs', ∀ a ∈ f', (∃ g ∈ gs, a ∈ fp g.j ∧ ∀ f ∈ g.frs, a ∉ f) ∨ ∃ f ∈ nfs, a ∈ f
  | [], ms, ms', nfs, _, _, h, _, _, _, e => by
    cases ms with
    | nil =>
      simp only [List.map_nil, putAll, Option.some.injEq] at e
      subst e
      exact ⟨[], trivial, .nil, fun f hf => by cases hf⟩
    | cons m ms => simp [putAll] at e
  | g :: gs, ms, ms', nfs, hs, nd, h, ap, ow, ot, e => by
    rw [List.map_cons, putAll, Option.bind_eq_some_iff] at e
    obtain ⟨d, e1, e2⟩ := e
    rw [Option.map_eq_some_iff] at e2
    obtain ⟨ds, e3, rfl⟩ := e2
    rw [List.flatMap_cons] at h
    obtain ⟨h1, h2⟩ := RepA.split h
    have hg := hs g (List.mem_cons_self ..)
    have G0 := hG g hg
    rw [List.map_cons, List.nodup_cons] at nd
    have apT : ApL (nfs.take g.vs.length) := ap.sublist (List.take_sublist ..)
    have apD : ApL (nfs.drop g.vs.length) := ap.sublist (List.drop_sublist ..)
    have mT : ∀ {f}, f ∈ nfs.take g.vs.length → f ∈ nfs := fun hf => List.mem_of_mem_take hf
    have mD : ∀ {f}, f ∈ nfs.drop g.vs.length → f ∈ nfs := fun hf => List.mem_of_mem_drop hf
    -- what of the name's own thing lies beside what was lent
    have beside : ∀ g ∈ GS, ∀ a ∈ fp g.j, (∀ f ∈ g.frs, a ∉ f) → ¬ GM GS a := fun g hg a ha hn ⟨g', hg', f, hf, hm⟩ => by
      by_cases z : g.j = g'.j
      · have := hinj g hg g' hg' z
        subst this
        exact hn f hf hm
      · exact r.sep g.j g'.j z (.inl (hG g hg).own) (.inl (hG g' hg').own) a ha ((hG g' hg').grp.sub f hf a hm)
    have inG : ∀ g ∈ GS, ∀ f ∈ nfs, ∀ a ∈ f, a ∈ fp g.j → ∃ f' ∈ g.frs, a ∈ f' := fun g hg f hf a ha hm => by
      rcases ow f hf a ha with z | ⟨g', hg', f', hf', hm'⟩
      · exact absurd z (r.hold_dom (.inl (hG g hg).own) hm)
      · by_cases z : g.j = g'.j
        · have := hinj g hg g' hg' z
          subst this
          exact ⟨f', hf', hm'⟩
        · exact absurd ((hG g' hg').grp.sub f' hf' a hm') (r.sep g.j g'.j z (.inl (hG g hg).own) (.inl (hG g' hg').own) a hm)
    obtain ⟨fp1, p1, p2⟩ := G0.grp.put F' H' _ _ d hF (fun a ha hn u hu => hu.same fun o ho => hH a o ho (beside g hg a ha hn)) h1 apT (fun f hf a ha hm => inG g hg f (mT hf) a ha hm) e1
    obtain ⟨nfs', q1, q2, q3⟩ := putAll_ok r hG hF hH hinj gs _ ds _ (fun x hx => hs x (List.mem_cons_of_mem _ hx)) nd.2 h2 apD (fun f hf => ow f (mD hf)) (fun _ _ _ _ _ _ _ => trivial) e3
    refine ⟨fp1 :: nfs', ⟨p1, q1⟩, .cons (fun f' hf' a ha hm => ?_) q2, fun f' hf' a ha => ?_⟩
    · rcases p2 a ha with ⟨z1, z2⟩ | ⟨f, hf, z⟩
      · rcases q3 f' hf' a hm with ⟨g', hg', y1, y2⟩ | ⟨f2, hf2, y⟩
        · have ne : g.j ≠ g'.j := fun z => nd.1 (z ▸ List.mem_map_of_mem hg')
          exact r.sep g.j g'.j ne (.inl G0.own) (.inl (hG g' (hs g' (List.mem_cons_of_mem _ hg'))).own) a z1 y1
        · obtain ⟨f3, hf3, y3⟩ := inG g hg f2 (mD hf2) a y z1
          exact z2 f3 hf3 y3
      · rcases q3 f' hf' a hm with ⟨g', hg', y1, y2⟩ | ⟨f2, hf2, y⟩
        · obtain ⟨f3, hf3, y3⟩ := inG g' (hs g' (List.mem_cons_of_mem _ hg')) f (mT hf) a z y1
          exact y2 f3 hf3 y3
        · have := ap
          rw [← List.take_append_drop g.vs.length nfs] at this
          exact (List.pairwise_append.mp this).2.2 f hf f2 hf2 a z y
    · rcases List.mem_cons.mp hf' with rfl | hf'
      · rcases p2 a ha with ⟨z1, z2⟩ | ⟨f, hf, z⟩
        · exact .inl ⟨g, List.mem_cons_self .., z1, z2⟩
        · exact .inr ⟨f, mT hf, z⟩
      · rcases q3 f' hf' a ha with ⟨g', hg', y⟩ | ⟨f2, hf2, y⟩
        · exact .inl ⟨g', List.mem_cons_of_mem _ hg', y⟩
        · exact .inr ⟨f2, mD hf2, y⟩
end
end DL
namespace DL
open PySem PySem.Spec L2
inductive Ix where
  | c (n : Nat) | v (k : Nat)
inductive Ls where
  | wh (j : Nat) | it (j : Nat) (ix : Ix) | pr (j : Nat) (ix : Ix)
def Ls.j : Ls → Nat
  | .wh j => j
  | .it j _ => j
  | .pr j _ => j
def IxV (σ : L2.St) : Ix → Int → Prop
  | .c n, i => i = n
  | .v k, i => σ[k]? = some (some (.int i))
def LC (σ : L2.St) (H : Hp) : Ls → List V → Prop
  | .wh j, vs => ∃ v, σ[j]? = some (some v) ∧ vs = [v]
  | .it j ix, vs => ∃ a xs i v, σ[j]? = some (some (.ref a)) ∧ Has H a (.lst xs) ∧ IxV σ ix i ∧ L2.atI xs i = some v ∧ vs = [v]
  | .pr j ix, vs => ∃ a xs i b x y, σ[j]? = some (some (.ref a)) ∧ Has H a (.lst xs) ∧ IxV σ ix i ∧ L2.atI xs i = some (.ref b) ∧ Has H b (.tup [x, y]) ∧ vs = [x, y]
def ixD (env : Evn) : Ix → Option Int
  | .c n => some n
  | .v k => match env[k]? with
    | some (.own (.int i)) => some i
    | _ => none
def tk (env : Evn) : Ls → Option (List D × (List D → Option D))
  | .wh j => match env[j]? with
    | some (.own d) => some ([d], putW)
    | _ => none
  | .it j ix => match env[j]?, ixD env ix with
    | some (.own (.node true .lst xs)), some i => (ixN xs.length i).bind fun n => (xs[n]?).map fun c => ([c], putF fun c' => .node true .lst (xs.set n c'))
    | _, _ => none
  | .pr j ix => match env[j]?, ixD env ix with
    | some (.own (.node true .lst xs)), some i => (ixN xs.length i).bind fun n => match xs[n]? with
      | some (.node true .tup [s, w]) => some ([s, w], putP fun c' => .node true .lst (xs.set n c'))
      | _ => none
    | _, _ => none
section
variable {K : PySem.W.Frag} {F H F' H' : Hp} {env : Evn} {σ : L2.St} {fp : Fp} {Z : Zst} {W : WX}
theorem slot_own (r : R K Z F H env σ fp) {j : Nat} {d : D} (q : env[j]? = some (.own d)) : ∃ v, σ[j]? = some (some v) ∧ Rep K F H d v (fp j) := by
  have s := r.slot j
  unfold SlotR at s
  rw [q] at s
  exact s
theorem foc_item {xs : List D} {v : V} {fr : List Addr} {n : Nat} {c : D} {i : Int} (h : Rep K F H (.node true .lst xs) v fr) (hn : ixN xs.length i = some n) (e : xs[n]? = some c) :
    ∃ a vs x fc, v = .ref a ∧ Has H a (.lst vs) ∧ L2.atI vs i = some x ∧ Foc K F H v fr x fc c (fun c' => .node true .lst (xs.set n c')) := by
  obtain ⟨a, u, vs, x, fc, e1, _, e3, e4, e5, e6⟩ := (Foc.root h).child e
  simp only [IsN] at e4
  subst e4
  refine ⟨a, vs, x, fc, e1, e3, ?_, e6⟩
  have hl : vs.length = xs.length := by
    subst e1
    simp only [Rep, IsN] at h
    obtain ⟨a', u', vs', fq, q1, _, q2, q3, _, _, q4⟩ := h
    cases q1
    subst q3
    have z1 := q2.ex rfl
    have z2 := e3.ex rfl
    rw [z1] at z2
    cases z2
    exact q4.len
  unfold L2.atI
  rw [hl, hn]
  exact e5
theorem nodup_inj : ∀ {GS : List G}, (GS.map G.j).Nodup → ∀ g ∈ GS, ∀ g' ∈ GS, g.j = g'.j → g = g'
  | [], _, g, hg, _, _, _ => by cases hg
  | x :: GS, nd, g, hg, g', hg', e => by
    rw [List.map_cons, List.nodup_cons] at nd
    rcases List.mem_cons.mp hg with e1 | m1
    · rcases List.mem_cons.mp hg' with e2 | m2
      · rw [e1, e2]
      · subst e1
        exact absurd (e ▸ List.mem_map_of_mem m2) nd.1
    · rcases List.mem_cons.mp hg' with e2 | m2
      · subst e2
        exact absurd (e ▸ List.mem_map_of_mem m1) nd.1
      · exact nodup_inj nd.2 g m1 g' m2 e
theorem mvs_all {α : Type} : ∀ {ks : List Bool} {vs : List α}, ks.all id = true → ks.length = vs.length → mvs ks vs = vs
  | [], [], _, _ => rfl
  | [], _ :: _, _, h => by simp at h
  | k :: ks, [], _, h => by simp at h
  | k :: ks, v :: vs, h, hl => by
    rw [List.all_cons, Bool.and_eq_true] at h
    have e : k = true := h.1
    subst e
    show v :: mvs ks vs = _
    rw [mvs_all h.2 (by simpa using hl)]
theorem repA_flat : ∀ {GS : List G}, (∀ g ∈ GS, RepA K F H g.ds g.vs g.frs) → RepA K F H (GS.flatMap G.ds) (GS.flatMap G.vs) (GS.flatMap G.frs)
  | [], _ => trivial
  | g :: GS, h => by
    rw [List.flatMap_cons, List.flatMap_cons, List.flatMap_cons]
    exact RepA.app (h g (List.mem_cons_self ..)) (repA_flat fun x hx => h x (List.mem_cons_of_mem _ hx))
theorem paired_of : ∀ {GS : List G}, (∀ g ∈ GS, σ[g.j]? = some (some g.v)) → Paired (fun j v => σ[j]? = some (some v)) (GS.map G.j) (GS.map G.v)
  | [], _ => .nil
  | g :: GS, h => .cons (h g (List.mem_cons_self ..)) (paired_of fun x hx => h x (List.mem_cons_of_mem _ hx))
end
end DL
namespace DL
open PySem PySem.Spec PyProof.Rows L2
def tIxv (ix : Ix) : TE := fun σ H Q => ∃ i, IxV σ ix i ∧ Q (.int i) H
section
variable {X : Cx} {W : WX} {e ie : Expr} {es : List Expr} {ls : List Ls} {j k n : Nat} {ix : Ix} {pos p1 p2 p3 p4 p5 p6 : Pos} {x : Str}
theorem pix_c {jj : Nat} (n : Nat) : PE X (.Constant (.int (n : Nat)) jj pos) (tIxv (.c n)) := ⟨fun pins s σ H Q I ⟨i, h1, h2⟩ => by
  have e : i = (n : Int) := h1
  subst e
  exact pe_int.run pins s σ H Q I h2⟩
theorem pev (i : Nat) (hN : X.N[i]? = some x := by rfl) (hv : Vis X.env.scope x := by first | exact Or.inl rfl | exact Or.inr (Or.inl rfl) | exact Or.inr (Or.inr rfl)) (hd : (x == ("__debug__" : Str)) = false := by decide)
    (hcd : (x == ("__classdict__" : Str)) = false := by decide) : PE X (.Name x pos) (tVar i) := pe_var hN hv hd hcd
theorem pe_item (he : PE X e (tVar j)) (hi : PE X ie (tIxv ix)) (hs : PlainIx ie := by exact fun _ _ => rfl) : PE X (.Subscript e ie pos) (fun σ H Q => ∃ v, LC σ H (.it j ix) [v] ∧ Q v H) := ⟨fun pins s σ H Q I ⟨v, ⟨a, xs, i, v', q1, q2, q3, q4, q5⟩, h⟩ => by
  cases q5
  exact (pe_ix ix_seq he hi hs).run pins s σ H Q I ⟨.ref a, q1, i, q3, .inl ⟨a, xs, i, v, rfl, rfl, .of (q2.ex rfl), q4, h⟩⟩⟩
variable {kk kc : Nat} {fA : Addr} {fd : FuncData} {ps : List Str} {kinds : List Bool} {Fx : List D → Fo} {ar : List Ar} {p : Pos}
end
end DL
namespace DL
open PySem PySem.Spec L2
end DL
namespace ZS
open PySem
open PySem.Sem (wp)
abbrev Rec (h : Heap) (z TI TO : Addr) (f0 : Value) : Prop := h.get? z = some { cls := .type "zip", dict := none, data := .fields #[f0, .bool false, .bool true, .ref TI, .ref TO], slots := #[] }
section
variable {prog : Program} {w : World} {A : Around} {E : Value → Shared → Prop} {s : Shared} {z TI TO i1 i2 it : Addr} {fp fp1 fp2 : List Addr} {n n1 n2 i : Nat} {P P1 P2 : Nat → Value → Prop} {St St1 St2 : Nat → Heap → Prop} {a1 a2 : Value}
theorem go {elts : List Expr} {k : Nat} {pos : Pos} {T : Addr} {Q : Unit → Shared → Prop} (hz : Rec s.heap z TI TO (rawInt T))
    (hQ : ∀ h', Rec h' z TI TO .none → Heap.SameBut z s.heap h' → Q () { s with heap := h' }) : wpAny (model prog w) A (letOwnedTupleGo (.Tuple elts k pos) (.ref z) (.ref T)) Q E s := by
  unfold letOwnedTupleGo
  refine wpAny_bind (wpAny_load hz ?_)
  show wpAny _ _ (ite (_ = true) _ _) Q E s
  rw [if_pos (by simp)]
  refine wpAny_bind (wpAny_rule ?_)
  show wpAny _ _ (setField (.ref z) 0 .none) Q E s
  exact wpAny_setField_rec hz (by simp) fun h' a b => hQ h' a b
theorem self {f0 : Value} {Q : Value → Shared → Prop} (hz : Rec s.heap z TI TO f0) (h : Q (.ref z) s) : wpAny (model prog w) A (pyIter (.ref z)) Q E s := by
  have hT : s.TypeIs (.ref z) "zip" := ⟨_, hz, rfl⟩
  refine wpAny_pyIter_slot hT F.slot_zip_iter (wpAny_call_entry F.slot_zip_iter hT F.entry_zip_iter ?_ (F.args_zip_iter_1 _))
  show wpAny _ _ (ret (.ref z)) _ _ s
  exact wpAny_pure ⟨_, rfl, "zip", _, hT, F.slot_zip_next.lookup, h⟩
end
def kwS : Str × Value := (Str.ofString "strict", .bool true)
theorem tc (a b : Value) : checkTypeCall "zip" ⟨[a, b], [kwS]⟩ = pure () := by kernel_rfl
theorem nc (a b : Value) : checkBuiltinCall "zip.__new__" ⟨[.type "zip", a, b], [kwS]⟩ = pure () := by kernel_rfl
section
variable {prog : Program} {w : World} {A : Around} {E : Value → Shared → Prop} {s : Shared}
end
end ZS
namespace DL
open PySem PySem.Spec PyProof.Rows L2
section
variable {M : Model} {A : Around} {E : Value → Shared → Prop} {s : Shared}
end
section
variable {X : Cx} {K : PySem.W.Frag} {W : WX} {ε : Bool} {k k2 : Kd} {F H F1 H1 : Hp} {env env1 : Evn} {fp fp1 : Fp} {Z : Zst} {σ σ1 : L2.St}
end
end DL
namespace DL
open PySem PySem.Spec PyProof.Rows L2
section
variable {X : Cx} {W : WX} {ε1 ε2 : Bool} {k k2 : Kd} {ks : List Kd} {o e : Expr} {f fe : FE} {apos cpos : Pos}
end
def fTryN (fb : FS) : FS := fun env => match fb env with
  | .exc _ _ _ => .stuck
  | o => o
end DL
namespace DL
open PySem PySem.Spec L2
open PyProof.Rows
section
variable {prog : Program} {w : World} {A : Around} {E : Value → Shared → Prop} {s : Shared}
end
section
variable {X : Cx} {es : List Expr} {k : Nat} {pos : Pos}
end
section
variable {X : Cx} {ms : List Nat} {es : List Expr} {tg : Expr} {k : Nat} {pos spos : Pos} {g : Md → D → Evn → Option Evn} {gs : Md → List D → Evn → Option Evn}
end
end DL
namespace DL
open PySem PySem.Spec PyProof.Rows L2
def fAugI (i : Nat) (fe : FE) : FS := fun env => match getS env i with
  | some (.int a) => (fe env).so fun d e => (match d with
    | .int b => optS (gNm i .own (.int (a + b)) e)
    | _ => .stuck)
  | _ => .stuck
end DL
namespace DL
open PySem PySem.Spec PyProof.Rows L2
theorem args_sumK (a v : Value) : argsOk "sum" ⟨[a], [("start", v)]⟩ := by unfold argsOk; kernel_rfl
theorem args_maxK (a v : Value) : argsOk "max" ⟨[a], [("default", v)]⟩ := by unfold argsOk; kernel_rfl
section
variable {prog : Program} {w : World} {A : Around} {E : Value → Shared → Prop} {s : Shared}
theorem call_function_treeK {id : String} {b : Builtin} {args : Args} {Q : Value → Shared → Prop} (hk : builtinKind id = none) (hp : plainId id = true)
    (hb : entryFor table id = some b) (ha : argsOk id args)
    (hc : wpAny (model prog w) A.in1 (b args) (fun fin s' => match fin with
      | .done f => (match (Except.ok f : Result) with | .ok (.ret v) => Q v s' | .ok _ => False | .error e => E e s')
      | .again c' => c'.quiet = true ∧ codeAny (model prog w) A c' (fun r s' => match r with | .ok (.ret v) => Q v s' | .ok _ => False | .error e => E e s') s') E s) :
    wpAny (model prog w) A (call (.builtin id) args.pos args.kw) Q E s := by
  refine wpAny_call (codeAny_call_builtin hp hb ?_)
  simp only [checkBuiltinCall, hk]
  cases hsig : Manifest.signature? id with
  | none => exact wpAny_pure hc
  | some sig =>
    simp only [argsOk, hsig] at ha
    have h2 : Bind.checkArgs id sig args = pure () := ha
    show wpAny _ A.in1 (Bind.checkArgs id sig args) _ _ s
    rw [h2]; exact wpAny_pure hc
theorem sumK_ints {l : Addr} {its : List Value} {ns : List Int} {t0 : Tok} {Q : Value → Shared → Prop} (hh : A.handled = none) (hl : s.heap.IsList l its.toArray) (hi : IntsAre its ns)
    (h : ∀ h' tk t', (∀ b o, s.heap.get? b = some o → h'.get? b = some o) → Q (.int ns.sum t') { s with heap := h', toks := tk }) :
    wpAny (model prog w) A (call (.builtin "sum") [.ref l] [("start", .int 0 t0)]) Q E s := by
  obtain ⟨xs, e⟩ := hi.allInts.items
  have hn : numsOf (intItems xs).toList = ns := by rw [← e]; exact hi.numsOf
  rw [nums_intItems] at hn
  rw [e] at hl
  refine call_function_treeK (args := ⟨[.ref l], [("start", .int 0 t0)]⟩) F.kind_sum F.plain_sum F.entry_sum (args_sumK _ _) ?_
  unfold Builtin.«sum»
  simp only [List.length_cons, List.length_nil]
  rw [if_neg (by decide)]
  refine wpAny_bind (wpAny_of_eq (show Builtin.Builtins.bindParams "sum" ["start"] 0 ⟨[], [("start", .int 0 t0)]⟩ = pure [some (.int 0 t0)] from rfl) ?_)
  refine wpAny_bind (iter_intList hl fun s₂ e st hfp hlI => ?_)
  subst e
  refine wpAny_bind (wpAny_bind (wpAny_rule ?_))
  refine wpAny_pure (wpAny_bind (wpAny_mkInt ?_))
  refine wpAny_bind (wpAny_pure ?_)
  simp only [List.forIn_cons, List.forIn_nil]
  refine wpAny_bind (wpAny_bind (wpAny_bind (wpAny_isInstance (T := "int") (b := false) (typeIs_int _ _ _) PySem.sub_int_str ?_)))
  simp only [Bool.false_eq_true, if_false]
  refine wpAny_pure (wpAny_bind (wpAny_bind (wpAny_isInstance (T := "int") (b := false) (typeIs_int _ _ _) PySem.sub_int_bytes ?_)))
  simp only [Bool.false_eq_true, if_false]
  refine wpAny_pure (wpAny_bind (wpAny_bind (wpAny_isInstance (T := "int") (b := false) (typeIs_int _ _ _) PySem.sub_int_bytearray ?_)))
  simp only [Bool.false_eq_true, if_false]
  refine wpAny_pure (wpAny_pure ?_)
  refine wpAny_bind (wpAny_newObj_type ?_)
  have W := Walks.list (prog := prog) (w := w) (A := A.in1) hh s.heap.objs.size l hlI (intItems xs)
  refine wpAny_pure ⟨plainId_quiet F.plain_sum_loop _, codeAny_sum_loopG W (numAt xs) (fun _ _ => intItems_at) _ (fun hm => Nat.lt_irrefl _ (hfp _ hm)) (intItems xs).size 0 _ _ 0 0 (Or.inl rfl) rfl (Nat.zero_le _)
    (W.frame _ _ _ st fun b _ o e => Heap.get?_push_of_some _ e) (Heap.get?_push_size _ rfl) fun h' tk t' hk => ?_⟩
  have := h h' tk t' (old_kept fun b o hbw e => hk b o hbw (Nat.ne_of_lt (Heap.lt_size e)) (Heap.get?_push_of_some _ e))
  rw [preSum_eq, List.take_of_length_le (by simp [intItems]), hn]
  exact this
end
section
variable {prog : Program} {w : World} {A : Around} {R : Result → Shared → Prop}
def Held (xs : Array (Int × Tok)) (j : Nat) (st : Array Value) : Prop := (j = 0 ∧ st = #[]) ∨ ∃ b v, b < j ∧ (intItems xs)[b]? = some v ∧ st = #[v, v] ∧ ∀ i, i < j → numAt xs i ≤ numAt xs b
theorem maxK_run {I l S : Addr} {xs : Array (Int × Tok)} {nm : Str} {d : Value} (hh : A.handled = none) (hlI : l ≠ I) (hSf : S ∉ [I, l]) : ∀ (k j : Nat) (s : Shared) (st : Array Value) (c : Nat), k = xs.size - j → j ≤ xs.size →
    (s.heap.IsListIter I l j ∧ s.heap.IsList l (intItems xs)) → s.heap.get? S = some { cls := .type "list", dict := none, data := .seq st c, slots := #[] } → Held xs j st →
    (∀ h' tk v, (∀ b o, b ∉ [I] → b ≠ S → s.heap.get? b = some o → h'.get? b = some o) → ((xs.size = 0 ∧ v = d) ∨ ∃ b, b < xs.size ∧ (intItems xs)[b]? = some v ∧ ∀ i, i < xs.size → numAt xs i ≤ numAt xs b) → R (.ok (.ret v)) { s with heap := h', toks := tk }) →
    codeAny (model prog w) A (.builtin "max.loop" ⟨[.ref I, .none, .ref S], [(nm, d)]⟩) R s := by
  have W := Walks.list (prog := prog) (w := w) (A := A.in1) hh I l hlI (intItems xs)
  have hSI : S ∉ [I] := fun z => hSf (by rcases List.mem_cons.mp z with rfl | z; exact List.mem_cons_self ..; cases z)
  have nmE : (toString "max" ++ toString ".loop" : String) = "max.loop" := by decide
  have szE : (intItems xs).size = xs.size := by simp [intItems]
  intro k
  induction k with
  | zero =>
    intro j s st c hk hj stt hS hd hR
    have je : j = (intItems xs).size := by omega
    refine codeAny_builtin F.entry_max_loop ?_
    rw [Around.under_plainId F.plain_max_loop _]
    refine wpAny_bind (m := seqItems? (.ref S)) (wpAny_seqItems hS rfl ?_)
    refine wpAny_bind (m := tryCatch (pyNext (.ref I)) _) (wpAny_tryCatch (W.done s _ _ (je ▸ stt) fun h' tk hk' => ?_))
    rcases hd with ⟨j0, rfl⟩ | ⟨b, v, b1, b2, rfl, b3⟩
    · refine wpAny_bind (wpAny_rule (wpAny_pure ?_))
      exact hR h' tk d (fun b o hb _ e => hk' b o hb e) (.inl ⟨by omega, rfl⟩)
    · refine wpAny_bind (m := updateSeq S (fun _ => #[])) ?_
      refine wpAny_updateSeq (hk' S _ hSI hS) rfl (wpAny_bind (wpAny_letGo (wpAny_pure ?_)))
      exact hR _ tk v (fun b o hb hbS e => (Heap.get?_update_other _ _ (Ne.symm hbS)).trans (hk' b o hb e)) (.inr ⟨b, by omega, b2, fun i hi => b3 i (by omega)⟩)
  | succ k ih =>
    intro j s st c hk hj stt hS hd hR
    have jl : j < (intItems xs).size := by omega
    refine codeAny_builtin F.entry_max_loop ?_
    rw [Around.under_plainId F.plain_max_loop _]
    refine wpAny_bind (m := seqItems? (.ref S)) (wpAny_seqItems hS rfl ?_)
    refine wpAny_bind (m := tryCatch (pyNext (.ref I)) _) (wpAny_tryCatch (W.item j s _ _ jl stt fun v h' tk hP stt' hk' => ?_))
    have hS' := hk' S _ hSI hS
    have away : ∀ b ∈ [I, l], S ≠ b := fun b hb z => hSf (z ▸ hb)
    rcases hd with ⟨j0, rfl⟩ | ⟨b, v0, b1, b2, rfl, b3⟩
    · refine wpAny_bind (m := updateSeq S (fun _ => #[v, v])) ?_
      refine wpAny_updateSeq hS' rfl ?_
      rw [nmE]
      refine wpAny_pure ⟨plainId_quiet F.plain_max_loop _, ih (j + 1) _ #[v, v] _ (by omega) (by omega) (W.frame _ _ _ stt' fun b hb o e => (Heap.get?_update_other _ _ (away b hb)).trans e) (Heap.get?_update_self _ hS' rfl) (.inr ⟨j, v, Nat.lt_succ_self _, hP, rfl, fun i hi => ?_⟩) fun h2 tk2 v2 hk2 hv => ?_⟩
      · obtain rfl : i = j := by omega
        exact Int.le_refl _
      · exact hR h2 tk2 v2 (fun b o hb hbS e => hk2 b o hb hbS ((Heap.get?_update_other _ _ (Ne.symm hbS)).trans (hk' b o hb e))) hv
    · refine wpAny_bind (m := tryCatch (holding [v, v] (richCompare .Gt v v0 >>= _)) _) ?_
      refine wpAny_tryCatch (wpAny_holding (wpAny_bind (CmpOf.ints_gt (P := fun i u => (intItems xs)[i]? = some u) (numAt xs) (fun _ _ => intItems_at) j b v v0 _ _ _ hP b2 ?_)))
      refine wpAny_bind (wpAny_holding (wpAny_truthy_bool ?_))
      refine wpAny_bind (wpAny_letGo (wpAny_pure ?_))
      by_cases hb : numAt xs j > numAt xs b
      · simp only [decide_eq_true hb, if_true]
        refine wpAny_bind (wpAny_updateSeq hS' rfl (wpAny_bind (wpAny_letGo ?_)))
        rw [nmE]
        refine wpAny_pure ⟨plainId_quiet F.plain_max_loop _, ih (j + 1) _ #[v, v] _ (by omega) (by omega) (W.frame _ _ _ stt' fun b hb o e => (Heap.get?_update_other _ _ (away b hb)).trans e) (Heap.get?_update_self _ hS' rfl) (.inr ⟨j, v, Nat.lt_succ_self _, hP, rfl, fun i hi => ?_⟩) fun h2 tk2 v2 hk2 hv => ?_⟩
        · rcases Nat.lt_succ_iff_lt_or_eq.mp hi with q | rfl
          · exact Int.le_trans (b3 i q) (Int.le_of_lt hb)
          · exact Int.le_refl _
        · exact hR h2 tk2 v2 (fun b o hb hbS e => hk2 b o hb hbS ((Heap.get?_update_other _ _ (Ne.symm hbS)).trans (hk' b o hb e))) hv
      · simp only [decide_eq_false hb, Bool.false_eq_true, if_false]
        refine wpAny_bind (wpAny_letGo ?_)
        rw [nmE]
        refine wpAny_pure ⟨plainId_quiet F.plain_max_loop _, ih (j + 1) _ #[v0, v0] _ (by omega) (by omega) stt' hS' (.inr ⟨b, v0, by omega, b2, rfl, fun i hi => ?_⟩) fun h2 tk2 v2 hk2 hv => ?_⟩
        · rcases Nat.lt_succ_iff_lt_or_eq.mp hi with q | rfl
          · exact b3 i q
          · omega
        · exact hR h2 tk2 v2 (fun b o hb hbS e => hk2 b o hb hbS (hk' b o hb e)) hv
end
section
variable {prog : Program} {w : World} {A : Around} {E : Value → Shared → Prop} {s : Shared}
theorem maxK_ints {l : Addr} {its : List Value} {ns : List Int} {d : Value} {Q : Value → Shared → Prop} (hh : A.handled = none) (hl : s.heap.IsList l its.toArray) (hi : IntsAre its ns)
    (h0 : ns = [] → ∀ h' tk, (∀ b o, s.heap.get? b = some o → h'.get? b = some o) → Q d { s with heap := h', toks := tk })
    (h : 0 < ns.length → ∀ h' tk M t', (∀ b o, s.heap.get? b = some o → h'.get? b = some o) → M ∈ ns → (∀ a, a ∈ ns → a ≤ M) → Q (.int M t') { s with heap := h', toks := tk }) :
    wpAny (model prog w) A (call (.builtin "max") [.ref l] [("default", d)]) Q E s := by
  obtain ⟨xs, e⟩ := hi.allInts.items
  have hn : numsOf (intItems xs).toList = ns := by rw [← e]; exact hi.numsOf
  rw [nums_intItems] at hn
  subst hn
  rw [e] at hl
  refine call_function_treeK (args := ⟨[.ref l], [("default", d)]⟩) F.kind_max F.plain_max F.entry_max (args_maxK _ _) ?_
  refine wpAny_bind (m := Builtin.Builtins.bindParams "max" ["key", "default"] 0 ⟨[], [("default", d)]⟩) (wpAny_of_eq (show Builtin.Builtins.bindParams "max" ["key", "default"] 0 ⟨[], [("default", d)]⟩ = pure [none, some d] from rfl) ?_)
  refine wpAny_bind (wpAny_pure (wpAny_bind (iter_intList hl fun s₂ e st hfp hlI => ?_)))
  subst e
  refine wpAny_bind (wpAny_newObj_type ?_)
  rw [show (toString "max" ++ toString ".loop" : String) = "max.loop" by decide]
  refine wpAny_pure ⟨plainId_quiet F.plain_max_loop _, maxK_run (xs := xs) hh hlI (fun hm => Nat.lt_irrefl _ (hfp _ hm)) xs.size 0 _ #[] _ rfl (Nat.zero_le _) ?_ (Heap.get?_push_size _ rfl) (.inl ⟨rfl, rfl⟩) fun h' tk v hk hv => ?_⟩
  · exact (Walks.list (prog := prog) (w := w) (A := A.in1) hh _ l hlI (intItems xs)).frame 0 _ _ st fun b _ o e => Heap.get?_push_of_some _ e
  · have hk' := old_kept fun b o hbw e => hk b o hbw (Nat.ne_of_lt (Heap.lt_size e)) (Heap.get?_push_of_some _ e)
    rcases hv with ⟨z, rfl⟩ | ⟨b, b1, b2, b3⟩
    · exact h0 (by have : xs = #[] := Array.size_eq_zero_iff.mp z; subst this; rfl) h' tk hk'
    · obtain ⟨t, rfl⟩ := intItems_at b2
      refine h (by rw [List.length_map, Array.length_toList]; omega) h' tk _ t hk' ?_ fun a ha => ?_
      · rw [numAt_eq]
        exact PySem.getD_mem (by rw [List.length_map, Array.length_toList]; omega)
      · obtain ⟨j, hj, rfl⟩ := mem_getD ha
        rw [List.length_map, Array.length_toList] at hj
        rw [← numAt_eq]
        exact b3 j hj
end
section
variable {X : Cx} {W : WX} {ε : Bool} {k : Kd}
def rSumK (K : PySem.W.Frag) : List V → List V → Hp → VK → Prop := fun vs zs H Q => zs = [V.int 0] ∧ rSum K vs H Q
def rMaxK (K : PySem.W.Frag) (m0 : Int) : List V → List V → Hp → VK → Prop := fun vs zs H Q => zs = [V.int m0] ∧ ∃ (a : Addr) (ns : List Int), vs = [V.ref a] ∧ SqL K H a (ns.map V.int) ∧ (ns = [] → Q (.int m0) H) ∧ (0 < ns.length → ∀ m, m ∈ ns → (∀ y, y ∈ ns → y ≤ m) → Q (.int m) H)
theorem cr_sumK (hc : X.calm = true) : CallRK X (.builtin "sum") ["start"] (rSumK X.K) := by
  intro pins s σ H vs zs us ws Q I r r2 h
  obtain ⟨rfl, a, ns, rfl, hs, q⟩ := h
  obtain ⟨its, rv, hl, _⟩ := I.list hs
  rw [Vals.ref1 r]
  cases r2 with
  | cons r2 rr =>
    cases rr
    obtain ⟨t0, rfl⟩ := r2
    exact sumK_ints (I.ok.hd hc) hl.isList rv.ints fun h' tk t' hk => ⟨.int _, H, I.kept hk, ⟨_, rfl⟩, q⟩
theorem cr_maxK {m0 : Int} (hc : X.calm = true) : CallRK X (.builtin "max") ["default"] (rMaxK X.K m0) := by
  intro pins s σ H vs zs us ws Q I r r2 h
  obtain ⟨rfl, a, ns, rfl, hs, q0, q⟩ := h
  obtain ⟨its, rv, hl, _⟩ := I.list hs
  rw [Vals.ref1 r]
  cases r2 with
  | cons r2 rr =>
    cases rr
    obtain ⟨t0, rfl⟩ := r2
    exact maxK_ints (I.ok.hd hc) hl.isList rv.ints (fun z h' tk hk => ⟨.int _, H, I.kept hk, ⟨_, rfl⟩, q0 z⟩) fun hne h' tk m t' hk h1 h2 => ⟨.int _, H, I.kept hk, ⟨_, rfl⟩, q hne m h1 h2⟩
def oMaxD (m0 : Int) : List D → Option D
  | [.node _ .lst xs] => (intsD xs).map fun ns => .int ((maxI ns).getD m0)
  | _ => none
theorem ok_maxD {K : PySem.W.Frag} {m0 : Int} : OpOk K (fun vs H Q => rMaxK K m0 vs [V.int m0] H Q) (oMaxD m0) := by
  intro F H ds vs frs d Q hs rep e q
  unfold oMaxD at e
  split at e
  · rw [Option.map_eq_some_iff] at e
    obtain ⟨ns, e1, rfl⟩ := e
    obtain ⟨v, fr, rfl, rfl, h1⟩ := rep.one
    obtain ⟨p, ys, fq, rfl, hp, rl, _⟩ := h1.lst hs
    refine ⟨rfl, p, ns, rfl, .inl (.inl (by rw [hp, intsD_rep e1 rl])), fun z => ?_, fun hne m' h1 h2 => ?_⟩
    · subst z
      exact same_q hs (.plain rfl) q
    · cases e3 : maxI ns with
      | none => cases ns with
        | nil => simp at hne
        | cons a l => cases e3
      | some m =>
        rw [e3] at q
        obtain ⟨m1, m2⟩ := maxI_ok e3
        have em : m' = m := Int.le_antisymm (m2 m' h1) (h2 m m1)
        subst em
        exact same_q hs (.plain rfl) q
  · cases e
theorem ok_sumK {K : PySem.W.Frag} : OpOk K (fun vs H Q => rSumK K vs [V.int 0] H Q) oSum := fun F H ds vs frs d Q hs rep e q => ⟨rfl, ok_sum F H ds vs frs d Q hs rep e q⟩
theorem de_sumK {e : Expr} {ff : FA} {ks : List Kd} {kc : Nat} {p pos p3 p4 : Pos} (hcm : X.calm = true) (hm : X.mg "sum" = none) (ha : DA X W ε ks [e] ff) (hg : Gl X "sum" := by rfl)
    (he : backTo pos (starEach [e] X.env) = (false, eval e X.env) :: backTo pos (starEach [] X.env) := by rfl) (hpl : (backTo pos (starEach [e] X.env)).any (·.1) = false := by rfl) : DE X W ε .own (.Call (.Name "sum" p) [e] [⟨some (Str.ofString "start"), .Constant (.int 0) kc p4, p3⟩] pos) (fOp oSum ff) := by
  obtain ⟨t, q, s⟩ := ha.ex
  refine ⟨_, pe_callBK (ks := ["start"]) (cr_sumK hcm) hg hm (by decide +kernel) q (pk_cons pe_int pk_nil) (by decide) (by decide) he hpl rfl rfl rfl, esim_op s ok_sumK fun σ H Q h => ?_⟩
  exact h
theorem de_maxD {e : Expr} {ff : FA} {ks : List Kd} {kc : Nat} {m0 : Int} {p pos p3 p4 : Pos} (hcm : X.calm = true) (hm : X.mg "max" = none) (ha : DA X W ε ks [e] ff) (hg : Gl X "max" := by rfl)
    (he : backTo pos (starEach [e] X.env) = (false, eval e X.env) :: backTo pos (starEach [] X.env) := by rfl) (hpl : (backTo pos (starEach [e] X.env)).any (·.1) = false := by rfl) : DE X W ε .own (.Call (.Name "max" p) [e] [⟨some (Str.ofString "default"), .Constant (.int m0) kc p4, p3⟩] pos) (fOp (oMaxD m0) ff) := by
  obtain ⟨t, q, s⟩ := ha.ex
  refine ⟨_, pe_callBK (ks := ["default"]) (cr_maxK (m0 := m0) hcm) hg hm (by decide +kernel) q (pk_cons pe_int pk_nil) (by decide) (by decide) he hpl rfl rfl rfl, esim_op s (ok_maxD (m0 := m0)) fun σ H Q h => ?_⟩
  exact h
end
end DL
namespace DL
open PySem PySem.Spec PyProof.Rows L2
def shownOk (p : PyData) : Prop := p.showable = true ∧ p.hasDict = false ∧ p.depth ≤ 60 ∧ p.shown.length ≤ sizeLine
instance (p : PyData) : Decidable (shownOk p) := by unfold shownOk; infer_instance
structure FnG (P : Program) (w : World) (K : PySem.W.Frag) (mg : Str → Option Value) (base : Heap) (CX : CXT) (k : Nat) (f : Addr) (fd : FuncData) (ps : List Str) (sp : Sp) : Prop where
  len : ∀ vs H Q E, sp vs H Q E → vs.length = ps.length
  run : ∀ (A : Around) (outer : List Env) (s : Shared) (H : Hp) (args : Args) (us : List Value) (vs : List V) (Q : VK) (E : XK), A.guards = some [] → Room k A → Env0 P w K mg base A outer s H → BindsTo s fd args (ps.zip us) → Vals vs us → sp vs H Q E →
    codeAny (model P w) A (.call (.ref f) args) (CR CX outer P w H s Q E) s
section
variable {P : Program} {w : World} {K : PySem.W.Frag} {mg : Str → Option Value} {base : Heap} {x qual : Str} {params : Arguments} {body : List Stmt} {scope : Scope} {dvs : List V} {kws : List (Str × V)} {f : Addr} {fd : FuncData}
end
end DL
namespace DL
open PySem PySem.Spec PyProof.Rows L2 LamX
section
variable {P : Program} {w : World} {K : PySem.W.Frag} {mg mb : Str → Option Value} {CX : CXT} {k : Nat} {fa a : Addr} {cs : List (Addr × Addr)} {fd : FuncData} {x : Str} {sp : Sp} {s₁ : Shared} {us : List Value} {ns : List Int}
end
end DL
namespace DL
open PySem PySem.Spec PyProof.Rows L2
end DL
namespace DL
open PySem PySem.Spec PyProof.Rows L2
end DL
namespace DL
open PySem PySem.Spec PyProof.Rows L2
section
variable {X : Cx}
end
end DL
namespace DL
open PySem PySem.Spec L2
section
variable {K : PySem.W.Frag} {F H F1 H1 F' H' : Hp} {env env1 env' : Evn} {fp fp1 fp' : Fp} {Z : Zst} {σ σ' : L2.St} {vs : List Nat} {n : Nat}
end
section
variable {X : Cx} {W : WX} {ε : Bool} {k : Kd} {tg iter elt c : Expr} {ifs : List Expr} {scope : Scope} {own : List (Str × Nat)} {pos : Pos} {fI : Evn → Rs (Md × List D × Bool)} {gD : Md → D → Evn → Option Evn} {ft : FT} {fe : FE} {n : Nat} {vs : List Nat} {ms : List Nat}
end
end DL
namespace DL
open PySem PySem.Spec L2
end DL
namespace DL
open PySem PySem.Spec PyProof.Rows L2
end DL
namespace DL
open PySem PySem.Spec PyProof.Rows L2
section
variable {prog : Program} {w : World} {A : Around} {E : Value → Shared → Prop} {s : Shared} {d a : Addr} {ks : List Key}
end
section
variable {X : Cx} {pins : List (Addr × Obj)} {σ : L2.St} {H : Hp} {s : Shared} {a b : Addr} {A : Around} {E : Value → Shared → Prop} {r : Value}
end
end DL
namespace DL
open PySem PySem.Spec PyProof.Rows L2
section
variable {X : Cx} {o e f : Expr} {apos cpos : Pos} {td ty tx : TE}
end
section
variable {K : PySem.W.Frag} {W : WX} {ε1 ε2 : Bool} {k : Kd} {ks : List Kd}
end
section
variable {X : Cx} {W : WX} {ε1 ε2 ε3 : Bool} {k1 k2 k3 : Kd} {o e f : Expr} {fo fe ff : FE} {apos cpos : Pos}
end
end DL
namespace DL
open PySem PySem.Spec PyProof.Rows L2
section
variable {K : PySem.W.Frag} {W : WX} {F H F' H' : Hp} {env : Evn} {σ : L2.St} {fp : Fp} {Z : Zst}
theorem lend_gs {Fx : List D → Fo} {kinds : List Bool} {GS : List G} {Q : VK} {E : XK} (r : R K Z F H env σ fp) (g4 : ∀ g ∈ GS, GOk K F H env σ fp g) (nd : (GS.map G.j).Nodup) (hk : kinds.all id = true) (hl : kinds.length = (GS.flatMap G.ds).length)
    {d : D} {ms ms' : List D} (q2 : Fx (GS.flatMap G.ds) = .ret d ms) (q3 : putAll (GS.map fun g => (g.vs.length, g.put)) ms = some ms')
    (h : ∀ F' H' fp' v fr, Ev true F H env fp F' H' (backM (GS.map G.j) ms' env) fp' → R K Z F' H' (backM (GS.map G.j) ms' env) σ fp' → (∀ a o, H a = some o → ¬ GM GS a → H' a = some o) → Rep K F' H' d v fr → Q v H') :
    spD K kinds Fx (GS.flatMap G.vs) H Q E := by
  have hinj := nodup_inj nd
  have rep := repA_flat fun g hg => (g4 g hg).grp.rep
  have toGM : ∀ a, MutA kinds (GS.flatMap G.frs) a → GM GS a := fun a ⟨i, f, _, h2, h3⟩ => by
    obtain ⟨g, hg, hf⟩ := List.mem_flatMap.mp (List.mem_of_getElem? h2)
    exact ⟨g, hg, f, hf, h3⟩
  have gmO : ∀ a, GM GS a → ∃ g ∈ GS, a ∈ fp g.j := fun a ⟨g, hg, f, hf, ha⟩ => ⟨g, hg, (g4 g hg).grp.sub f hf a ha⟩
  have beside : ∀ g ∈ GS, ∀ a ∈ fp g.j, (∀ f ∈ g.frs, a ∉ f) → ¬ GM GS a := fun g hg a ha hn ⟨g', hg', f, hf, hm⟩ => by
    by_cases z : g.j = g'.j
    · have := hinj g hg g' hg' z
      subst this
      exact hn f hf hm
    · exact r.sep g.j g'.j z (.inl (g4 g hg).own) (.inl (g4 g' hg').own) a ha ((g4 g' hg').grp.sub f hf a hm)
  have inF : ∀ i f, (GS.flatMap G.frs)[i]? = some f → ∃ g ∈ GS, ∀ a ∈ f, a ∈ fp g.j := fun i f hf => by
    obtain ⟨g, hg, hf⟩ := List.mem_flatMap.mp (List.mem_of_getElem? hf)
    exact ⟨g, hg, (g4 g hg).grp.sub f hf⟩
  have apAll : ApL (GS.flatMap G.frs) := by
    refine List.pairwise_flatMap.mpr ⟨fun g hg => (g4 g hg).grp.ap, ?_⟩
    have nd' : GS.Pairwise fun g g' => g.j ≠ g'.j := List.pairwise_map.mp nd
    refine List.Pairwise.imp_of_mem ?_ nd'
    intro g g' hg hg' ne f hf f' hf' a ha hm
    exact r.sep g.j g'.j ne (.inl (g4 g hg).own) (.inl (g4 g' hg').own) a ((g4 g hg).grp.sub f hf a ha) ((g4 g' hg').grp.sub f' hf' a hm)
  have emv : mvs kinds (GS.flatMap G.vs) = GS.flatMap G.vs := mvs_all hk (by rw [rep.lens.1]; exact hl)
  have ho : ∀ j ∈ GS.map G.j, isOwn env j := fun j hj => by
    obtain ⟨g, hg, rfl⟩ := List.mem_map.mp hj
    exact (g4 g hg).own
  refine ⟨F, GS.flatMap G.ds, GS.flatMap G.frs, r.sub, rep, hl, ⟨fun i j fi fj hij _ h1 h2 => apL_get apAll i j fi fj hij h1 h2, fun i fi _ h1 a ha => ?_, fun i fi _ h1 a ha => ?_⟩, ?_⟩
  · obtain ⟨g, hg, hs⟩ := inF i fi h1
    exact r.hF g.j (.inl (g4 g hg).own) a (hs a ha)
  · obtain ⟨g, hg, hs⟩ := inF i fi h1
    exact r.nf g.j (g4 g hg).own a (hs a ha)
  · rw [q2]
    intro F' H' v fr nfs fe rp mu own
    obtain ⟨nfs', p1, p2, p3⟩ := putAll_ok r g4 fe.sub (fun a o ho hn => fe.keep a o ho fun z => hn (toGM a z)) hinj GS ms ms' nfs (fun _ h => h) nd (emv ▸ mu.rep) (apL_of mu.apart) (fun f hf a ha => (mu.own f hf a ha).1.imp id (toGM a)) (fun _ _ _ _ _ _ _ => trivial) q3
    have fe' : FEv F H (fun a => ∃ j ∈ GS.map G.j, a ∈ fp j) F' H' := by
      have mm : ∀ a, MutA kinds (GS.flatMap G.frs) a → ∃ j ∈ GS.map G.j, a ∈ fp j := fun a z => by
        obtain ⟨g, hg, ha⟩ := gmO a (toGM a z)
        exact ⟨g.j, List.mem_map_of_mem hg, ha⟩
      exact ⟨fun a o ho hn => fe.keep a o ho fun z => hn (mm a z), fe.sub, fun a x y => (fe.new a x y).imp id (mm a), fe.dom, fe.has, fe.nofz⟩
    obtain ⟨fp', b1, b2, b3⟩ := back_ok r ho nd fe' (fun a h => h) (paired_of fun g hg => (g4 g hg).at_) p1 (apL_get p2) (fun f hf a ha => by
      rcases p3 f hf a ha with ⟨g, hg, z1, z2⟩ | ⟨f2, hf2, z⟩
      · refine ⟨.inr ⟨g.j, List.mem_map_of_mem hg, z1⟩, ?_⟩
        cases w : F' a with
        | none => rfl
        | some u =>
          rcases fe.new a (r.hF g.j (.inl (g4 g hg).own) a z1) (by rw [w]; exact fun z => by cases z) with y | y
          · exact absurd y (r.hold_dom (.inl (g4 g hg).own) z1)
          · exact absurd (toGM a y) (beside g hg a z1 z2)
      · refine ⟨(mu.own f2 hf2 a z).1.imp id fun y => ?_, (mu.own f2 hf2 a z).2⟩
        obtain ⟨g, hg, ha⟩ := gmO a (toGM a y)
        exact ⟨g.j, List.mem_map_of_mem hg, ha⟩)
    exact h F' H' fp' v fr (b1.mono (fun _ => rfl) (fun z => by cases z)) b2 (fun a o h1 hn => fe.keep a o h1 fun z => hn (toGM a z)) rp
end
section
variable {K : PySem.W.Frag} {F H F' H' : Hp} {v w : V} {fp fs : List Addr} {d c : D} {g : D → D}
theorem Foc.childA {s : Sh} {xs : List D} {n : Nat} (h : Foc K F H v fp w fs (.node true s xs) g) (e : xs[n]? = some c) :
    ∃ (a : Addr) (u : HO) (vs : List V) (x : V) (fc : List Addr), w = .ref a ∧ a ∈ fs ∧ Has H a u ∧ IsN K s vs u ∧ vs.length = xs.length ∧ vs[n]? = some x ∧ Foc K F H v fp x fc c (fun c' => g (.node true s (xs.set n c'))) ∧ a ∉ fc ∧ ∀ b ∈ fc, b ∈ fs := by
  have r := h.rep
  simp only [Rep] at r
  obtain ⟨a, u, vs, fq, rfl, rfl, h1, h2, h3, h4, h5⟩ := r
  obtain ⟨x, fc, e1, e2, e3, e4⟩ := RepL.foc xs vs fq n c h5 e
  have hn : n < xs.length := (List.getElem?_eq_some_iff.mp e).1
  have ha : a ∉ fc := fun z => h3 (e3 a z)
  refine ⟨a, u, vs, x, fc, rfl, List.mem_cons_self .., h1, h2, h5.len, e1, ⟨e2, fun b hb => h.sub b (List.mem_cons_of_mem _ (e3 b hb)), fun F' H' c' fc' hF hH hc hd hz => ?_⟩, ha, fun b hb => List.mem_cons_of_mem _ (e3 b hb)⟩
  have hup := h.sub
  obtain ⟨fq', q1, q2⟩ := e4 F' H' c' fc' hF (fun b hb n => hH b (hup b (List.mem_cons_of_mem _ hb)) n) hc fun b hb hm => hd b hb (hup b (List.mem_cons_of_mem _ hm))
  have han : a ∉ fq' := fun z => by
    rcases q2 a z with y | y
    · exact h3 y.1
    · exact ha (hd a y (hup a (List.mem_cons_self ..)))
  have rp : Rep K F' H' (.node true s (xs.set n c')) (.ref a) (a :: fq') := by
    rw [Rep]
    exact ⟨a, u, vs, fq', rfl, rfl, hH a (hup a (List.mem_cons_self ..)) ha u h1, h2, han, fun _ => frzL_set xs n c' hz hn, q1⟩
  have hcl : ∀ b ∈ a :: fq', b ∈ fp → b ∈ a :: fq := fun b hb hm => by
    rcases List.mem_cons.mp hb with rfl | hb
    · exact List.mem_cons_self ..
    · rcases q2 b hb with y | y
      · exact List.mem_cons_of_mem _ y.1
      · exact List.mem_cons_of_mem _ (e3 b (hd b y hm))
  obtain ⟨p1, fp', p2, p3⟩ := h.put F' H' _ _ hF (fun b hb n => hH b hb fun z => n (List.mem_cons_of_mem _ (e3 b z))) rp hcl rfl
  refine ⟨p1, fp', p2, fun b hb => ?_⟩
  rcases p3 b hb with z | z
  · refine .inl ⟨z.1, fun y => z.2 (List.mem_cons_of_mem _ (e3 b y))⟩
  · rcases List.mem_cons.mp z with rfl | z
    · exact .inl ⟨hup _ (List.mem_cons_self ..), ha⟩
    · rcases q2 b z with y | y
      · exact .inl ⟨hup b (List.mem_cons_of_mem _ y.1), y.2⟩
      · exact .inr y
theorem FEv.grow {M : Addr → Prop} (fe : FEv F H M F' H') (hM : ∀ a, ¬ M a) : Grow F H F' H' :=
  ⟨fun a o h => fe.keep a o h (hM a), fe.sub, fun a h n => (fe.new a h n).resolve_right (hM a), fe.has, fe.nofz⟩
theorem mutA_nil1 (a : Addr) : ¬ MutA [true] [[]] a := fun ⟨i, f, _, h2, h3⟩ => by
  cases i with
  | zero => cases h2; cases h3
  | succ i => simp at h2
theorem mutA_fal (frs : List (List Addr)) (a : Addr) : ¬ MutA [false] frs a := fun ⟨i, f, h1, _, _⟩ => by
  cases i with
  | zero => cases h1
  | succ i => simp at h1
theorem spD_frz1 {Fx : List D → Fo} {x : V} {fc : List Addr} {c d : D} {ms : List D} {Q : VK} {E : XK} (hs : ∀ a u, F a = some u → Has H a u) (rp : Rep K F H c x fc) (hz : c.frz = true) (e : Fx [c] = .ret d ms)
    (q : ∀ F' H' v, Grow F H F' H' → Q v H') : spD K [true] Fx [x] H Q E := by
  have := Rep.frz_nil _ _ _ hz rp
  subst this
  refine ⟨F, [c], [[]], hs, ⟨rp, trivial⟩, rfl, ⟨fun i j fi fj hij h1 h2 h3 a ha => ?_, fun i fi _ h2 a ha => ?_, fun i fi _ h2 a ha => ?_⟩, ?_⟩
  · cases i with
    | zero => cases h2; cases ha
    | succ i => simp at h2
  · cases i with
    | zero => cases h2; cases ha
    | succ i => simp at h2
  · cases i with
    | zero => cases h2; cases ha
    | succ i => simp at h2
  · rw [e]
    exact fun F' H' v fr nfs fe _ _ _ => q F' H' v (fe.grow mutA_nil1)
theorem spD_frz1' {Fx : List D → Fo} {x : V} {fc : List Addr} {c d : D} {ms : List D} {Q : VK} {E : XK} (hs : ∀ a u, F a = some u → Has H a u) (rp : Rep K F H c x fc) (hz : c.frz = true) (e : Fx [c] = .ret d ms)
    (q : ∀ F' H' v, Grow F H F' H' → (∃ fr, Rep K F' H' d v fr) → Q v H') : spD K [true] Fx [x] H Q E := by
  have := Rep.frz_nil _ _ _ hz rp
  subst this
  refine ⟨F, [c], [[]], hs, ⟨rp, trivial⟩, rfl, ⟨fun i j fi fj hij h1 h2 h3 a ha => ?_, fun i fi _ h2 a ha => ?_, fun i fi _ h2 a ha => ?_⟩, ?_⟩
  · cases i with
    | zero => cases h2; cases ha
    | succ i => simp at h2
  · cases i with
    | zero => cases h2; cases ha
    | succ i => simp at h2
  · cases i with
    | zero => cases h2; cases ha
    | succ i => simp at h2
  · rw [e]
    exact fun F' H' v fr nfs fe rv _ _ => q F' H' v (fe.grow mutA_nil1) ⟨fr, rv⟩
end
end DL
namespace DL
open PySem PySem.Spec PyProof.Rows L2
def sclD : D → Bool
  | .non => true
  | .bl _ => true
  | .int _ => true
  | .str _ => true
  | _ => false
def nodD : D → Bool
  | .node _ _ _ => true
  | _ => false
def loopK (Fx : List D → Fo) : List D → Option (List D)
  | [] => some []
  | c :: r => match Fx [c] with
    | .ret _ [c'] => if c.frz = true then (loopK Fx r).map (c :: ·) else if c'.frz = false then (loopK Fx r).map (c' :: ·) else none
    | _ => none
def wrkD (Fx : List D → Fo) : D → Option D
  | .node o .tup (.str w :: xs) => if w = "ours" ∨ w = "weather" then (if xs.all sclD = true then some (.node o .tup (.str w :: xs)) else none)
    else if w = "within" then (match xs with
      | [b, c] => if sclD b = true ∧ nodD c = true ∧ (o = true ∨ c.frz = true) then (loopK Fx [c]).bind fun r => match r with
        | [c'] => some (.node o .tup [.str w, b, c'])
        | _ => none
        else none
      | _ => none)
    else (match o, xs with
      | true, [.node true .lst ks] => (loopK Fx ks).map fun ks' => .node true .tup [.str w, .node true .lst ks']
      | _, _ => none)
  | _ => none
def fWrk (Fx : List D → Fo) : FS := fun env => match env with
  | [.own p, .dead] => match wrkD Fx p with
    | some p' => .nxt [.own p', .dead]
    | none => .stuck
  | _ => .stuck
structure KidsD (Fk : List D → Fo) : Prop where
  leaf : ∀ (w : Str) (xs : List D), (w = "ours" ∨ w = "weather") → xs.all sclD = true → Fk [.node false .tup (.str w :: xs)] = .ret (.node true .lst []) []
  wit : ∀ (b : D) (a : Addr), sclD b = true → Fk [.node false .tup [.str "within", b, .ob a]] = .ret (.node true .lst [.ob a]) []
  many : ∀ (w : Str) (a : Addr), ¬ (w = "ours" ∨ w = "weather") → w ≠ "within" → Fk [.node false .tup [.str w, .ob a]] = .ret (.ob a) []
section
variable {K : PySem.W.Frag} {F H F' H' : Hp}
theorem List.set_getElem?_self' {α : Type} {l : List α} {n : Nat} {c : α} (h : l[n]? = some c) : l.set n c = l := by
  apply List.ext_getElem?
  intro j
  by_cases z : j = n
  · subst z
    rw [List.getElem?_set_self (List.getElem?_eq_some_iff.mp h).1, h]
  · rw [List.getElem?_set_ne (Ne.symm z)]
theorem scl_rep {d : D} {v : V} {f : List Addr} (h : sclD d = true) (r : Rep K F H d v f) (F' H' : Hp) : Rep K F' H' d v [] ∧ f = [] := by
  cases d <;> first | (cases h; done) | (obtain ⟨rfl, rfl⟩ := r; exact ⟨⟨rfl, rfl⟩, rfl⟩)
theorem scls_rep : ∀ {ds : List D} {vs : List V} {f : List Addr}, ds.all sclD = true → RepL K F H ds vs f → ∀ F' H' : Hp, RepL K F' H' ds vs []
  | [], vs, f, _, r, F', H' => by
    obtain ⟨rfl, rfl⟩ := r
    exact ⟨rfl, rfl⟩
  | d :: ds, vs, f, h, r, F', H' => by
    rw [List.all_cons, Bool.and_eq_true] at h
    obtain ⟨v, ws, f1, f2, rfl, rfl, _, r1, r2⟩ := r
    exact ⟨v, ws, [], [], rfl, rfl, (fun _ z => nomatch z), (scl_rep h.1 r1 F' H').1, scls_rep h.2 r2 F' H'⟩
theorem tup_has {o : Bool} {xs : List D} {v : V} {f : List Addr} (hs : ∀ a u, F a = some u → Has H a u) (h : Rep K F H (.node o .tup xs) v f) : ∃ a vs fq, v = .ref a ∧ Has H a (.tup vs) ∧ RepL K F H xs vs fq := by
  cases o with
  | true =>
    rw [Rep] at h
    obtain ⟨a, u, vs, fq, rfl, _, h1, h2, _, _, h3⟩ := h
    cases h2
    exact ⟨a, vs, fq, rfl, h1, h3⟩
  | false =>
    rw [Rep] at h
    obtain ⟨a, u, vs, rfl, _, h1, h2, h3⟩ := h
    cases h2
    exact ⟨a, vs, [], rfl, hs _ _ h1, h3⟩
theorem nod_ref {d : D} {v : V} {f : List Addr} (h : nodD d = true) (r : Rep K F H d v f) : ∃ a, v = .ref a := by
  cases d with
  | node o s xs =>
    cases o with
    | true => rw [Rep] at r; obtain ⟨a, _, _, _, rfl, _⟩ := r; exact ⟨a, rfl⟩
    | false => rw [Rep] at r; obtain ⟨a, _, _, rfl, _⟩ := r; exact ⟨a, rfl⟩
  | _ => cases h
theorem spD_one {Fk : List D → Fo} {a : Addr} {vs : List V} {xs : List D} {d : D} {Q : VK} {E : XK} (ha : Has H a (.tup vs)) (rl : RepL K (fun b => if b = a then some (.tup vs) else none) H xs vs []) (e : Fk [.node false .tup xs] = .ret d [])
    (q : ∀ F' H' v fr, (∀ b o, H b = some o → H' b = some o) → (∀ b o u, H' b = some (.frz o u) → H b = some (.frz o u)) → Rep K F' H' d v fr → (∀ b ∈ fr, H b = none) → Q v H') : spD K [false] Fk [.ref a] H Q E := by
  refine ⟨fun b => if b = a then some (.tup vs) else none, [.node false .tup xs], [[]], fun b u hb => ?_, ⟨?_, trivial⟩, rfl, ⟨fun i j fi fj hij h1 => ?_, fun i fi h1 => ?_, fun i fi h1 => ?_⟩, ?_⟩
  · dsimp only at hb
    split at hb
    · rename_i z
      cases hb
      rw [z]
      exact ha
    · cases hb
  · rw [Rep]
    exact ⟨a, _, vs, rfl, rfl, if_pos rfl, rfl, rl⟩
  · cases i with
    | zero => cases h1
    | succ i => simp at h1
  · cases i with
    | zero => cases h1
    | succ i => simp at h1
  · cases i with
    | zero => cases h1
    | succ i => simp at h1
  · rw [e]
    intro F' H' v fr nfs fe rp _ own
    exact q F' H' v fr (fun b o h => fe.keep b o h (mutA_fal _ b)) fe.nofz rp fun b hb => ((own b hb).1).resolve_right (mutA_fal _ b)
end
section
variable {X : Cx} {W : WX} {ms : List Nat} {x y xK xF : Str} {px py pq pK pF posK posF pe pos : Pos} {kc kkK kkF : Nat} {fK fF : Addr} {fdK fdF : FuncData} {psK psF : List Str} {Fk Fx : List D → Fo}
theorem ds_wrk (hp : PassesOwn (model X.prog X.w) X.A X.env X.xe) (hc : X.calm = true) (hN : X.N.Nodup) (ck : CCx kc X W) (KD : KidsD Fk)
    (FK : FnOk X.prog X.w X.K X.mg X.base (L2.CX X.prog X.w) kkK fK fdK psK (spD X.K [false] Fk)) (hmK : X.mg xK = some (.ref fK)) (hkK : PySem.W.keepIn X.K (.ref fK) = true) (BK : BOk X.K fdK psK 1 [] [.arg 0])
    (FO : FnOk X.prog X.w X.K X.mg X.base (L2.CX X.prog X.w) kkF fF fdF psF (spD X.K [true] Fx)) (hmF : X.mg xF = some (.ref fF)) (hkF : PySem.W.keepIn X.K (.ref fF) = true) (BF : BOk X.K fdF psF 1 [] [.arg 0])
    (hN0 : X.N[0]? = some y := by rfl) (hN1 : X.N[1]? = some x := by rfl) (hkm : 1 ∉ ms := by decide) (hleK : kkK ≤ kc := by first | decide | exact Nat.le_refl _ | omega) (hleF : kkF ≤ kc := by first | decide | exact Nat.le_refl _ | omega)
    (hx : Loc X.env.scope x := by first | exact Or.inl rfl | exact Or.inr rfl) (hf : X.fn x = true ∨ X.env.scope.names.lookup x = some .local := by first | exact .inl rfl | exact .inr rfl | assumption)
    (hvy : Vis X.env.scope y := by first | exact Or.inl rfl | exact Or.inr (Or.inl rfl) | exact Or.inr (Or.inr rfl)) (hvx : Vis X.env.scope x := by first | exact Or.inl rfl | exact Or.inr (Or.inl rfl) | exact Or.inr (Or.inr rfl))
    (hdy : (y == ("__debug__" : Str)) = false := by decide) (hcy : (y == ("__classdict__" : Str)) = false := by decide) (hdx : (x == ("__debug__" : Str)) = false := by decide) (hcx : (x == ("__classdict__" : Str)) = false := by decide)
    (hgK : Gl X xK := by rfl) (hgF : Gl X xF := by rfl) (hdK : (xK == ("__debug__" : Str)) = false := by decide) (hdF : (xF == ("__debug__" : Str)) = false := by decide) (hsw : swapsWith (.Call (.Name xF pF) [.Name x pq] [] posF) none pe.line X.env = pure false := by rfl)
    (hfs : ∀ z, foldedSetIterable (.Call (.Name xK pK) [.Name y py] [] posK) X.env z = pure z := by intro _; rfl) :
    DS X W ms (.For (.Name x px) (.Call (.Name xK pK) [.Name y py] [] posK) [.Expr (.Call (.Name xF pF) [.Name x pq] [] posF) pe] [] pos) (fWrk Fx) := by
  obtain ⟨gK, gVK, hbK, hK2⟩ := BK.ex
  obtain ⟨gF, gVF, hbF, hF2⟩ := BF.ex
  have p1 := pe_cl (p := pK) (pos := posK) FK (ck.rm.mono hleK) hgK hmK hkK hbK ck.tk (pargs_pos (pa_cons (pe_var (i := 0) (pos := py) hN0 hvy hdy hcy) pa_nil)) hdK
  have p2 := pe_cl (p := pF) (pos := posF) FO (ck.rm.mono hleF) hgF hmF hkF hbF ck.tk (pargs_pos (pa_cons (pe_var (i := 1) (pos := pq) hN1 hvx hdx hcx) pa_nil)) hdF
  refine ⟨_, ps_for hp hc (pi_seq p1) (pg_name hN hN1 hx hf) (pss_one (ps_expr p2 hsw)) hfs, fun Z F1 H1 env1 σ1 fp1 D_ hm r1 h => ?_⟩
  unfold fWrk at h
  split at h
  case h_2 => exact h.elim
  rename_i p
  cases hw : wrkD Fx p with
  | none => rw [hw] at h; exact h.elim
  | some p' =>
  rw [hw] at h
  dsimp only at h
  have s0 := r1.slot 0
  unfold SlotR at s0
  obtain ⟨v0, hσ0, rp⟩ := s0
  have eV : ∀ v : V, gVK [v] [] = [v] := fun v => by rw [hK2 [v] [] rfl rfl]; rfl
  have eF : ∀ v : V, gVF [v] [] = [v] := fun v => by rw [hF2 [v] [] rfl rfl]; rfl
  have key : ∀ (mk : List D → D) (ks0 ks1 : List D) (a0 L : Addr) (vs : List V) (HP : Hp → Prop) (inv2 : Nat → List Addr → Prop) (H2 F2 : Hp) (fp2 : Fp),
      loopK Fx ks0 = some ks1 → p' = mk ks1 → vs.length = ks0.length → v0 = .ref a0 → (∀ H, HP H → H L = some (.lst vs)) → (∀ n f, inv2 (n + 1) f) → HP H2 → inv2 0 (fp2 0) →
      R X.K Z F2 H2 [.own (mk ks0), .dead] σ1 fp2 → Ev true F1 H1 [.own p, .dead] fp1 F2 H2 [.own (mk ks0), .dead] fp2 →
      (∀ (ks : List D) (F H : Hp) (f : List Addr) (n : Nat) (c : D), ks.length = ks0.length → HP H → inv2 n f → Rep X.K F H (mk ks) (.ref a0) f → ks[n]? = some c → ks0[n]? = some c → c.frz = false → ∃ x fc, vs[n]? = some x ∧ Foc X.K F H (.ref a0) f x fc c (fun c' => mk (ks.set n c')) ∧ ∀ H', (∀ a o, H a = some o → a ∉ fc → H' a = some o) → HP H') →
      (∀ (ks : List D) (F H : Hp) (f : List Addr) (n : Nat) (c : D), ks.length = ks0.length → HP H → (∀ a u, F a = some u → Has H a u) → Rep X.K F H (mk ks) (.ref a0) f → ks[n]? = some c → c.frz = true → ∃ x fc, vs[n]? = some x ∧ Rep X.K F H c x fc) →
      (∀ H H', HP H → (∀ a o, H a = some o → H' a = some o) → HP H') →
      ∃ Wd : Nat → Nat → L2.St → Hp → Prop, (∃ m, Wd 0 m σ1 H2) ∧ ∀ i m σ H, Wd i m σ H → ((Itl X.K L).stop i H ∧ D_.nx σ H) ∨ ((Itl X.K L).go i H ∧ ∃ N : L2.St → Hp → Prop, (∀ σ' H', N σ' H' → ∃ m', m' < m ∧ Wd (i + 1) m' σ' H') ∧ ∀ x H', (Itl X.K L).yld i H x H' →
        gName 1 x σ H' fun σ2 H2 => tDrop (tCl 1 [] (spD X.K [true] Fx) gVF W (fun σ H G => tCons (tVar 1) tNil σ H fun vs H1 => G vs [] H1)) { D_ with nx := N, ct := N, bk := D_.nx } σ2 H2) := by
    intro mk ks0 ks1 a0 L vs HP inv2 H2 F2 fp2 hL hp' hlen hv0 hHL hinv hH2 hi0 r2 ev2 foc frz mono
    subst hv0
    refine ⟨fun n m σ H => m = vs.length - n ∧ ∃ F fp dn rs, R X.K Z F H [.own (mk (dn ++ ks0.drop n)), .dead] σ fp ∧ Ev true F1 H1 [.own p, .dead] fp1 F H [.own (mk (dn ++ ks0.drop n)), .dead] fp ∧ dn.length = n ∧ n ≤ ks0.length ∧ σ[0]? = some (some (.ref a0)) ∧ HP H ∧ inv2 n (fp 0) ∧ loopK Fx (ks0.drop n) = some rs ∧ ks1 = dn ++ rs,
      ⟨vs.length, rfl, F2, fp2, [], ks1, r2, ev2, rfl, Nat.zero_le _, hσ0, hH2, hi0, hL, rfl⟩, ?_⟩
    rintro n m σ H ⟨rfl, F, fp, dn, rs, r, ev, hdn, hnl, hσ, hHP, hiv, hrs, hks⟩
    have hHl := hHL H hHP
    by_cases hlt : n < vs.length
    · have hlt0 : n < ks0.length := by omega
      refine .inr ⟨⟨vs, vs[n], .inl (.inl hHl), List.getElem?_eq_getElem hlt⟩, fun σ' H' => ∃ m', m' < vs.length - n ∧ (m' = vs.length - (n + 1) ∧ ∃ F fp dn rs, R X.K Z F H' [.own (mk (dn ++ ks0.drop (n + 1))), .dead] σ' fp ∧ Ev true F1 H1 [.own p, .dead] fp1 F H' [.own (mk (dn ++ ks0.drop (n + 1))), .dead] fp ∧ dn.length = n + 1 ∧ n + 1 ≤ ks0.length ∧ σ'[0]? = some (some (.ref a0)) ∧ HP H' ∧ inv2 (n + 1) (fp 0) ∧ loopK Fx (ks0.drop (n + 1)) = some rs ∧ ks1 = dn ++ rs), fun σ' H' z => z, fun x' H' hyx => ?_⟩
      obtain ⟨eH, hy⟩ := hyx
      obtain rfl : H = H' := eH.symm
      have e1 := hy vs (.inl (.inl hHl))
      rw [List.getElem?_eq_getElem hlt] at e1
      cases e1
      have hdr : ks0.drop n = ks0[n] :: ks0.drop (n + 1) := List.drop_eq_getElem_cons hlt0
      have hcur : (dn ++ ks0.drop n)[n]? = some ks0[n] := by
        rw [List.getElem?_append_right (by omega), hdn, Nat.sub_self, hdr]
        rfl
      have hcl : (dn ++ ks0.drop n).length = ks0.length := by
        rw [List.length_append, List.length_drop]
        omega
      have hset : ∀ c', (dn ++ ks0.drop n).set n c' = (dn ++ [c']) ++ ks0.drop (n + 1) := fun c' => by
        rw [List.set_append_right _ _ (by omega), hdn, Nat.sub_self, hdr, List.set_cons_zero, List.append_assoc]
        rfl
      have hσl : σ.length = 2 := by
        have := r.len
        have h2 := r.len.2
        simp at h2
        omega
      -- the loop's name gets the part
      have rk : R X.K Z F H [.own (mk (dn ++ ks0.drop n)), .dead] (σ.set 1 (some vs[n])) (fset fp 1 []) :=
        R.put (i := 1) (s' := .dead) (f' := []) r (by simp) (fun j hj => List.getElem?_set_ne (Ne.symm hj)) (by rw [List.length_set]) (fun q hq => by
          have : q.1 ≠ 1 := fun z => hkm (z ▸ hm q hq)
          rw [List.getElem?_set_ne (Ne.symm this)]
          exact r.pin q hq) trivial
      have evk : Ev true F1 H1 [.own p, .dead] fp1 F H [.own (mk (dn ++ ks0.drop n)), .dead] (fset fp 1 []) := Ev.put (i := 1) (s' := .dead) (f' := []) ev (by simp) (fun d h => (nomatch h)) (fun d h => (nomatch h))
      have f0 : fset fp 1 [] 0 = fp 0 := fset_ne (by decide)
      have hσ' : (σ.set 1 (some vs[n]))[0]? = some (some (.ref a0)) := by rw [List.getElem?_set_ne (by decide)]; exact hσ
      have hσ1 : (σ.set 1 (some vs[n]))[1]? = some (some vs[n]) := List.getElem?_set_self (by omega)
      have sl := rk.slot 0
      unfold SlotR at sl
      obtain ⟨v1, q1, rp1⟩ := sl
      rw [hσ'] at q1
      cases q1
      rw [f0] at rp1
      refine ⟨vs[n], hσ1, rfl, rfl, ?_⟩
      rw [eF]
      rw [hdr] at hrs
      unfold loopK at hrs
      cases hF : Fx [ks0[n]] with
      | stuck => rw [hF] at hrs; cases hrs
      | exc a b c => rw [hF] at hrs; cases hrs
      | ret d mo =>
      rw [hF] at hrs
      match mo, hF, hrs with
      | [], _, hrs => cases hrs
      | _ :: _ :: _, _, hrs => cases hrs
      | [c'], hF, hrs =>
      dsimp only at hrs
      by_cases hz : ks0[n].frz = true
      · rw [if_pos hz, Option.map_eq_some_iff] at hrs
        obtain ⟨rs', h3, rfl⟩ := hrs
        obtain ⟨x, fc, e3, rpc⟩ := frz _ F H _ n _ hcl hHP rk.sub rp1 hcur hz
        rw [List.getElem?_eq_getElem hlt] at e3
        cases e3
        refine spD_frz1 rk.sub rpc hz hF fun F' H' v g => ?_
        refine ⟨vs.length - (n + 1), by omega, rfl, F', fset fp 1 [], dn ++ [ks0[n]], rs', ?_, ?_, by simp [hdn], hlt0, hσ', mono H H' hHP g.keep, hinv n _, h3, by rw [hks, List.append_assoc]; rfl⟩
        · rw [← hset, List.set_getElem?_self' hcur]
          exact rk.grow g
        · rw [← hset, List.set_getElem?_self' hcur]
          exact (evk.trans (g.ev (ε := false))).mono (fun _ => rfl) (fun z => by cases z)
      · rw [if_neg hz] at hrs
        have hz' : ks0[n].frz = false := by simpa using hz
        by_cases hz2 : c'.frz = false
        case neg => rw [if_neg hz2] at hrs; cases hrs
        rw [if_pos hz2, Option.map_eq_some_iff] at hrs
        obtain ⟨rs', h3, rfl⟩ := hrs
        obtain ⟨x, fc, e3, fo, hk⟩ := foc _ F H _ n _ hcl hHP hiv rp1 hcur (List.getElem?_eq_getElem hlt0) hz'
        rw [List.getElem?_eq_getElem hlt] at e3
        cases e3
        rw [← f0] at fo
        have := lend_gs (K := X.K) (Fx := Fx) (kinds := [true]) (GS := [⟨0, .ref a0, [ks0[n]], [vs[n]], [fc], putF fun c' => mk ((dn ++ ks0.drop n).set n c')⟩]) (E := WE W (σ.set 1 (some vs[n])))
          (Q := fun v H' => ∃ m', m' < vs.length - n ∧ (m' = vs.length - (n + 1) ∧ ∃ F fp dn rs, R X.K Z F H' [.own (mk (dn ++ ks0.drop (n + 1))), .dead] (σ.set 1 (some vs[n])) fp ∧ Ev true F1 H1 [.own p, .dead] fp1 F H' [.own (mk (dn ++ ks0.drop (n + 1))), .dead] fp ∧ dn.length = n + 1 ∧ n + 1 ≤ ks0.length ∧ (σ.set 1 (some vs[n]))[0]? = some (some (.ref a0)) ∧ HP H' ∧ inv2 (n + 1) (fp 0) ∧ loopK Fx (ks0.drop (n + 1)) = some rs ∧ ks1 = dn ++ rs))
          rk (fun g hg => by
            rw [List.mem_singleton] at hg
            subst hg
            exact ⟨⟨_, rfl⟩, hσ', grp_foc fo⟩) (by simp) rfl rfl (d := d) (ms := [c']) (ms' := [mk ((dn ++ ks0.drop n).set n c')]) hF (by
            show ((putF (fun c' => mk ((dn ++ ks0.drop n).set n c')) [c']).bind fun d => _) = _
            unfold putF
            dsimp only
            rw [if_pos hz2]
            rfl) fun F' H' fp' v fr ev' r' kp _ => by
            rw [hset] at ev' r'
            have hgm : ∀ a, a ∉ fc → ¬ GM [⟨0, .ref a0, [ks0[n]], [vs[n]], [fc], putF fun c' => mk ((dn ++ ks0.drop n).set n c')⟩] a := fun a ha ⟨g, hg, f, hf, hm⟩ => by
              rw [List.mem_singleton] at hg
              subst hg
              rw [List.mem_singleton] at hf
              subst hf
              exact ha hm
            exact ⟨vs.length - (n + 1), by omega, rfl, F', fp', dn ++ [c'], rs', r', (evk.trans ev').mono (fun z => z) (fun z => by cases z), by simp [hdn], hlt0, hσ', hk H' (fun a o h1 h2 => kp a o h1 (hgm a h2)), hinv n _, h3, by rw [hks, List.append_assoc]; rfl⟩
        exact this
    · refine .inl ⟨⟨vs, .inl (.inl hHl), by omega⟩, ?_⟩
      have hn : ks0.drop n = [] := List.drop_eq_nil_of_le (by omega)
      rw [hn] at hrs
      cases hrs
      rw [List.append_nil] at hks
      rw [hn, List.append_nil, ← hks, ← hp'] at r ev
      exact h F H fp σ ev r
  refine ⟨v0, hσ0, rfl, rfl, ?_⟩
  rw [eV]
  have gr : ∀ H' : Hp, (∀ b o, H1 b = some o → H' b = some o) → (∀ b o u, H' b = some (.frz o u) → H1 b = some (.frz o u)) → Grow F1 H1 F1 H' := fun H' k n =>
    ⟨k, fun _ _ z => z, fun a z y => absurd z y, fun a u hu => (r1.sub a u hu).same (k a), n⟩
  have evg : ∀ {H' : Hp}, Grow F1 H1 F1 H' → Ev true F1 H1 [.own p, .dead] fp1 F1 H' [.own p, .dead] fp1 := fun g => g.ev
  unfold wrkD at hw
  split at hw
  case h_2 => cases hw
  rename_i o w xs
  obtain ⟨a0, vs0, fq0, rfl, hA0, rl0⟩ := tup_has r1.sub rp
  have hA0' := hA0.ex rfl
  by_cases hl : w = "ours" ∨ w = "weather"
  · rw [if_pos hl] at hw
    by_cases hall : xs.all sclD = true
    case neg => rw [if_neg hall] at hw; cases hw
    rw [if_pos hall] at hw
    cases hw
    refine spD_one hA0 (scls_rep (ds := .str w :: xs) (by rw [List.all_cons, hall]; rfl) rl0 _ _) (KD.leaf w xs hl hall) fun F' H' v fr kp nz rpv own => ?_
    rw [Rep] at rpv
    obtain ⟨L, u, vs, fq, rfl, _, hL, hn, _, _, rl⟩ := rpv
    cases hn
    obtain ⟨rfl, _⟩ := rl
    have hL' := hL.ex rfl
    refine ⟨L, rfl, .inl ⟨⟨[], .inl (.inl hL')⟩, ?_⟩⟩
    exact key (fun _ => .node o .tup (.str w :: xs)) [] [] a0 L [] (fun H => H L = some (.lst [])) (fun _ _ => True) H' F1 fp1 rfl rfl rfl rfl (fun _ h => h) (fun _ _ => trivial) hL' trivial (r1.grow (gr H' kp nz)) (evg (gr H' kp nz))
      (fun ks F H f n c hkl _ _ _ e _ => by
        rw [List.length_nil, List.length_eq_zero_iff] at hkl
        subst hkl
        cases e) (fun ks F H f n c hkl _ _ _ e => by
        rw [List.length_nil, List.length_eq_zero_iff] at hkl
        subst hkl
        cases e) fun H H' h m => m _ _ h
  · rw [if_neg hl] at hw
    by_cases hwi : w = "within"
    · rw [if_pos hwi] at hw
      subst hwi
      split at hw
      case h_2 => cases hw
      rename_i b c
      by_cases hbc : sclD b = true ∧ nodD c = true ∧ (o = true ∨ c.frz = true)
      case neg => rw [if_neg hbc] at hw; cases hw
      rw [if_pos hbc, Option.bind_eq_some_iff] at hw
      obtain ⟨rr, hlk, hw⟩ := hw
      split at hw
      case h_2 => cases hw
      rename_i c'
      cases hw
      obtain ⟨hb, hcn, hoc⟩ := hbc
      obtain ⟨x0, ws0, f1, f2, rfl, _, _, ⟨rfl, _⟩, x1, ws1, f3, f4, rfl, _, _, rb, x2, ws2, f5, f6, rfl, _, _, rc, rfl, _⟩ := rl0
      obtain ⟨a2, rfl⟩ := nod_ref hcn rc
      refine spD_one hA0 (xs := [.str "within", b, .ob a2]) ⟨_, _, [], [], rfl, rfl, (fun _ z => nomatch z), ⟨rfl, rfl⟩, _, _, [], [], rfl, rfl, (fun _ z => nomatch z), (scl_rep hb rb _ _).1, _, _, [], [], rfl, rfl, (fun _ z => nomatch z), ⟨rfl, rfl⟩, rfl, rfl⟩ (KD.wit b a2 hb) fun F' H' v fr kp nz rpv own => ?_
      rw [Rep] at rpv
      obtain ⟨L, u, vs, fq, rfl, rfl, hL, hn, _, _, rl⟩ := rpv
      cases hn
      obtain ⟨y, ys, g1, g2, rfl, _, _, ⟨rfl, _⟩, rfl, _⟩ := rl
      have hL' := hL.ex rfl
      have hLn : H1 L = none := own L (List.mem_cons_self ..)
      refine ⟨L, rfl, .inl ⟨⟨[.ref a2], .inl (.inl hL')⟩, ?_⟩⟩
      refine key (fun ks => .node o .tup (.str "within" :: b :: ks)) [c] [c'] a0 L [.ref a2] (fun H => H L = some (.lst [.ref a2]) ∧ H a0 = some (.tup [.str "within", x1, .ref a2])) (fun n f => n = 0 → L ∉ f) H' F1 fp1 hlk rfl rfl rfl (fun _ h => h.1) (fun _ _ z => absurd z (Nat.succ_ne_zero _)) ⟨hL', kp _ _ hA0'⟩ (fun _ z => Rep.dom _ _ _ rp L z hLn) (r1.grow (gr H' kp nz)) (evg (gr H' kp nz))
        (fun ks F H f n c1 hkl hH hiv rpk e e0 hz => ?_) (fun ks F H f n c1 hkl hH hs rpk e hz => ?_) (fun H H' h m => ⟨m _ _ h.1, m _ _ h.2⟩)
      · cases n with
        | succ n => simp at e0
        | zero =>
        cases e0
        rcases hoc with rfl | z
        case inr => rw [z] at hz; cases hz
        match ks, hkl, e with
        | [_], _, e =>
        cases e
        obtain ⟨a', u', vs', x, fc, e1, _, e2, e3, _, e4, fo, e5, e6⟩ := Foc.childA (n := 2) (Foc.root rpk) rfl
        cases e1
        cases e3
        have := e2.ex rfl
        rw [hH.2] at this
        cases this
        cases e4
        refine ⟨.ref a2, fc, rfl, fo, fun H' hk => ⟨hk L _ hH.1 fun z => hiv rfl (e6 L z), hk a0 _ hH.2 e5⟩⟩
      · match ks, hkl, e with
        | [_], _, e =>
        cases n with
        | succ n => simp at e
        | zero =>
        cases e
        cases o with
        | true =>
          obtain ⟨a', u', vs', x, fc, e1, _, e2, e3, _, e4, fo, e5, e6⟩ := Foc.childA (n := 2) (Foc.root rpk) rfl
          cases e1
          cases e3
          have := e2.ex rfl
          rw [hH.2] at this
          cases this
          cases e4
          exact ⟨.ref a2, fc, rfl, fo.rep⟩
        | false =>
          rw [Rep] at rpk
          obtain ⟨a', u', vs', e1, _, e2, e3, rlk⟩ := rpk
          cases e1
          cases e3
          have z := (hs _ _ e2).ex rfl
          rw [hH.2] at z
          cases z
          obtain ⟨y0, _, g1, g2, q1, _, _, _, y1, _, g3, g4, q2, _, _, _, y2, _, g5, g6, q3, _, _, rc', _, _⟩ := rlk
          cases q1
          cases q2
          cases q3
          exact ⟨.ref a2, _, rfl, rc'⟩
    · rw [if_neg hwi] at hw
      split at hw
      case h_2 => cases hw
      rename_i ks
      rw [Option.map_eq_some_iff] at hw
      obtain ⟨ks', hlk, rfl⟩ := hw
      obtain ⟨x0, ws0, f1, f2, rfl, _, _, ⟨rfl, _⟩, x1, ws1, f3, f4, rfl, _, _, rb, rfl, _⟩ := rl0
      rw [Rep] at rb
      obtain ⟨L, u, vs, fq, rfl, _, hL, hn, _, _, rlk⟩ := rb
      cases hn
      have hL' := hL.ex rfl
      refine spD_one hA0 (xs := [.str w, .ob L]) ⟨_, _, [], [], rfl, rfl, (fun _ z => nomatch z), ⟨rfl, rfl⟩, _, _, [], [], rfl, rfl, (fun _ z => nomatch z), ⟨rfl, rfl⟩, rfl, rfl⟩ (KD.many w L hl hwi) fun F' H' v fr kp nz rpv own => ?_
      obtain ⟨rfl, _⟩ := rpv
      refine ⟨L, rfl, .inl ⟨⟨vs, .inl (.inl (kp _ _ hL'))⟩, ?_⟩⟩
      have two : ∀ (ks : List D) (F H : Hp) (f : List Addr) (n : Nat) (c : D), H L = some (.lst vs) ∧ H a0 = some (.tup [.str w, .ref L]) → Rep X.K F H (.node true .tup [.str w, .node true .lst ks]) (.ref a0) f → ks[n]? = some c →
          ∃ x fc, vs[n]? = some x ∧ Foc X.K F H (.ref a0) f x fc c (fun c' => .node true .tup [.str w, .node true .lst (ks.set n c')]) ∧ L ∉ fc ∧ a0 ∉ fc := fun ks F H f n c hH rpk e => by
        obtain ⟨a', u', vs', xL, fL, e1, _, e2, e3, _, e4, fo, e5, e6⟩ := Foc.childA (n := 1) (Foc.root rpk) (c := .node true .lst ks) rfl
        cases e1
        cases e3
        have z := e2.ex rfl
        rw [hH.2] at z
        cases z
        cases e4
        obtain ⟨a'', u'', vs'', x, fc, q1, _, q2, q3, _, q4, fo2, q5, q6⟩ := Foc.childA fo e
        cases q1
        cases q3
        have z := q2.ex rfl
        rw [hH.1] at z
        cases z
        exact ⟨x, fc, q4, fo2, q5, fun z => e5 (q6 _ z)⟩
      exact key (fun ks => .node true .tup [.str w, .node true .lst ks]) ks ks' a0 L vs (fun H => H L = some (.lst vs) ∧ H a0 = some (.tup [.str w, .ref L])) (fun _ _ => True) H' F1 fp1 hlk rfl rlk.len rfl (fun _ h => h.1) (fun _ _ => trivial) ⟨kp _ _ hL', kp _ _ hA0'⟩ trivial (r1.grow (gr H' kp nz)) (evg (gr H' kp nz))
        (fun ks F H f n c _ hH _ rpk e _ _ => by
          obtain ⟨x, fc, q1, q2, q3, q4⟩ := two ks F H f n c hH rpk e
          exact ⟨x, fc, q1, q2, fun H' hk => ⟨hk _ _ hH.1 q3, hk _ _ hH.2 q4⟩⟩)
        (fun ks F H f n c _ hH _ rpk e _ => by
          obtain ⟨x, fc, q1, q2, q3, q4⟩ := two ks F H f n c hH rpk e
          exact ⟨x, fc, q1, q2.rep⟩)
        fun H H' h m => ⟨m _ _ h.1, m _ _ h.2⟩
end
end DL
namespace DL
open PySem PySem.Spec PyProof.Rows L2
def fLendI (Fx : List D → Fo) (j n : Nat) : FE := fun env => match env[j]? with
  | some (.own (.node true .lst xs)) => match xs[n]? with
    | some c => match Fx [c] with
      | .ret .non [c'] => if c.frz = true then .ok .non env else if c'.frz = false then .ok .non (backM [j] [.node true .lst (xs.set n c')] env) else .stuck
      | _ => .stuck
    | none => .stuck
  | _ => .stuck
section
variable {X : Cx} {W : WX} {x xs_ : Str} {kk kc : Nat} {fA : Addr} {fd : FuncData} {ps : List Str} {Fx : List D → Fo} {p pos p1 p2 p3 : Pos} {jj : Nat}
theorem de_lendI (j n : Nat) (c : CCx kc X W) (FO : FnOk X.prog X.w X.K X.mg X.base (L2.CX X.prog X.w) kk fA fd ps (spD X.K [true] Fx)) (hm : X.mg x = some (.ref fA)) (hk : PySem.W.keepIn X.K (.ref fA) = true) (B : BOk X.K fd ps 1 [] [.arg 0])
    (hN : X.N[j]? = some xs_ := by rfl) (hv : Vis X.env.scope xs_ := by first | exact Or.inl rfl | exact Or.inr (Or.inl rfl) | exact Or.inr (Or.inr rfl)) (hd : (xs_ == ("__debug__" : Str)) = false := by decide) (hcd : (xs_ == ("__classdict__" : Str)) = false := by decide)
    (hle : kk ≤ kc := by first | decide | exact Nat.le_refl _ | omega) (hg : Gl X x := by rfl) (hdb : (x == ("__debug__" : Str)) = false := by decide) :
    DE X W true .own (.Call (.Name x p) [.Subscript (.Name xs_ p1) (.Constant (.int (n : Nat)) jj p2) p3] [] pos) (fLendI Fx j n) := by
  obtain ⟨gF, gVF, hbF, hF2⟩ := B.ex
  have q0 := pe_cl (p := p) (pos := pos) FO (c.rm.mono hle) hg hm hk hbF c.tk (pargs_pos (pa_cons (pe_item (pos := p3) (pev (pos := p1) j hN hv hd hcd) (pix_c (jj := jj) (pos := p2) n)) pa_nil)) hdb
  refine ⟨_, q0, fun Z F H env σ fp Q r h => ?_⟩
  unfold fLendI at h
  split at h
  case h_2 => exact h.elim
  rename_i xs he
  split at h
  case h_2 => exact h.elim
  rename_i cc hc
  obtain ⟨v0, hσ, rp⟩ := slot_own r he
  have hn : ixN xs.length (n : Int) = some n := by
    have := (List.getElem?_eq_some_iff.mp hc).1
    unfold ixN
    rw [if_pos (by omega), if_pos (by omega)]
    simp
  obtain ⟨a, vs, x0, fc, rfl, hA, hi, fo⟩ := foc_item rp hn hc
  refine ⟨x0, ⟨a, vs, (n : Int), x0, hσ, hA, rfl, hi, rfl⟩, rfl, rfl, ?_⟩
  rw [hF2 [x0] [] rfl rfl]
  show spD X.K [true] Fx [x0] H Q (WE W σ)
  cases hF : Fx [cc] with
  | stuck => rw [hF] at h; exact h.elim
  | exc a b c => rw [hF] at h; exact h.elim
  | ret d mo =>
  rw [hF] at h
  match d, mo, hF, h with
  | .non, [c'], hF, h =>
    dsimp only at h
    by_cases hz : cc.frz = true
    · rw [if_pos hz] at h
      exact spD_frz1' r.sub fo.rep hz hF fun F' H' v g rv => by
        obtain ⟨_, rfl, _⟩ := rv
        exact h F' H' fp .non [] (g.ev (ε := true)) (r.grow g) ⟨rfl, rfl⟩ (fun a ha => nomatch ha)
    · rw [if_neg hz] at h
      by_cases hz2 : c'.frz = false
      case neg => rw [if_neg hz2] at h; exact h.elim
      rw [if_pos hz2] at h
      exact lend_gs (K := X.K) (Fx := Fx) (kinds := [true]) (GS := [⟨j, .ref a, [cc], [x0], [fc], putF fun c' => .node true .lst (xs.set n c')⟩]) r (fun g hg => by
        rw [List.mem_singleton] at hg
        subst hg
        exact ⟨⟨_, he⟩, hσ, grp_foc fo⟩) (by simp) rfl rfl (d := .non) (ms := [c']) (ms' := [.node true .lst (xs.set n c')]) hF (by
        show ((putF (fun c' => .node true .lst (xs.set n c')) [c']).bind fun d => _) = _
        unfold putF
        dsimp only
        rw [if_pos hz2]
        rfl) fun F' H' fp' v fr ev' r' _ rv => by
        obtain ⟨rfl, rfl⟩ := rv
        exact h F' H' fp' .non [] ev' r' ⟨rfl, rfl⟩ (fun a ha => nomatch ha)
  | .non, [], hF, h => exact h.elim
  | .non, _ :: _ :: _, hF, h => exact h.elim
  | .bl _, _, hF, h => exact h.elim
  | .int _, _, hF, h => exact h.elim
  | .str _, _, hF, h => exact h.elim
  | .ob _, _, hF, h => exact h.elim
  | .ty _, _, hF, h => exact h.elim
  | .scr _, _, hF, h => exact h.elim
  | .tscr _ _, _, hF, h => exact h.elim
  | .lam _ _ _, _, hF, h => exact h.elim
  | .node _ _ _, _, hF, h => exact h.elim
end
end DL
namespace My
open PySem PySem.Spec L2 DL
abbrev ar__law_whole_3_ : List Ar := [.arg 0, .arg 1, .arg 2]
abbrev ar__law_good_form_1_ : List Ar := [.arg 0]
abbrev ar__law_good_leaf_1_ : List Ar := [.arg 0]
abbrev ar__law_leaf_count_1_ : List Ar := [.arg 0]
abbrev ar__law_kids_1_ : List Ar := [.arg 0]
abbrev ar__law_plan_depth_1_ : List Ar := [.arg 0]
abbrev ar__law_reading_count_1_ : List Ar := [.arg 0]
abbrev ar__law_draw_2_ : List Ar := [.arg 0, .arg 1]
abbrev ar__law_plan_4_ : List Ar := [.arg 0, .arg 1, .arg 2, .arg 3]
abbrev ar__law_leaf_2_ : List Ar := [.arg 0, .arg 1]
abbrev ar__law_plan_copy_1_ : List Ar := [.arg 0]
abbrev ar__law_same_2_ : List Ar := [.arg 0, .arg 1]
abbrev ar__law_ways_1_ : List Ar := [.arg 0]
abbrev ar_anew_1_ : List Ar := [.arg 0]
abbrev ar_parts_of_1_ : List Ar := [.arg 0]
abbrev ar_choices_1_ : List Ar := [.arg 0]
abbrev ar_is_within_3_ : List Ar := [.arg 0, .arg 1, .arg 2]
abbrev ar_is_formed_2_ : List Ar := [.arg 0, .arg 1]
abbrev ar_is_leaf_1_ : List Ar := [.arg 0]
abbrev ar_leaves_1_ : List Ar := [.arg 0]
abbrev ar_ways_1_ : List Ar := [.arg 0]
abbrev ar_need_plan_1_ : List Ar := [.arg 0]
abbrev ar_readings_1_ : List Ar := [.arg 0]
abbrev ar__law_good_plan_1_ : List Ar := [.arg 0]
abbrev ar__law_flow_1_ : List Ar := [.arg 0]
def B__law_flow : FS := (fRet (fOp oLst (aCons (fOp oList (aCons (fSl (fVar 0) (fun env => .ok none env) (fPart (fC (.int 63)))) aNil)) (aCons (fC (.int 0)) (aCons (fC (.int 0)) (aCons (fC (.int 11)) aNil))))))
def F__law_flow : List D → Fo := runF [false] 1 B__law_flow
def B__law_whole : FS := (fRet (fAndV (fOp (oIsi tab_int) (aCons (fVar 0) aNil)) (fAndV (fNotV (fOp (oIsi tab_bool) (aCons (fVar 0) aNil))) (fChain oLe oLe (fVar 1) (fVar 0) (fVar 2)))))
def F__law_whole : List D → Fo := runF [false, false, false] 3 B__law_whole
def B__law_good_leaf : FS := (fSeq (fIfS (fB (fOp oEqF (aCons (fOp oItm (aCons (fVar 0) (aCons (fC (.int 0)) aNil))) (aCons (fC (.str "ours")) aNil)))) (fSeq (fAsg .own (fAndV (fCall F__law_whole [false, false, false] ar__law_whole_3_ [.val (.bor 0), .val .frz, .val .frz] (aCons (fOp oItm (aCons (fVar 0) (aCons (fC (.int 1)) aNil))) (aCons (fC (.int 0)) (aCons (fC (.int 1000)) aNil)))) (fCall F__law_whole [false, false, false] ar__law_whole_3_ [.val (.bor 0), .val .frz, .val .frz] (aCons (fOp oItm (aCons (fVar 0) (aCons (fC (.int 2)) aNil))) (aCons (fC (.int 0)) (aCons (fC (.int 1000)) aNil))))) (gNm 1))
  (fRet (fAndV (fVar 1) (fOp oLe (aCons (fOp oItm (aCons (fVar 0) (aCons (fC (.int 1)) aNil))) (aCons (fOp oItm (aCons (fVar 0) (aCons (fC (.int 2)) aNil))) aNil)))))) fNext)
  (fSeq (fAsg .own (fAndV (fCall F__law_whole [false, false, false] ar__law_whole_3_ [.val (.bor 0), .val .frz, .val .frz] (aCons (fOp oItm (aCons (fVar 0) (aCons (fC (.int 1)) aNil))) (aCons (fC (.int 1)) (aCons (fC (.int 1000)) aNil)))) (fCall F__law_whole [false, false, false] ar__law_whole_3_ [.val (.bor 0), .val .frz, .val .frz] (aCons (fOp oItm (aCons (fVar 0) (aCons (fC (.int 2)) aNil))) (aCons (fC (.int 1)) (aCons (fC (.int 1000)) aNil))))) (gNm 1))
  (fSeq (fAsg .own (fAndV (fVar 1) (fOp oLe (aCons (fOp oItm (aCons (fVar 0) (aCons (fC (.int 1)) aNil))) (aCons (fOp oItm (aCons (fVar 0) (aCons (fC (.int 2)) aNil))) aNil)))) (gNm 1))
  (fRet (fAndV (fVar 1) (fOrV (fOp oIsN (aCons (fOp oItm (aCons (fVar 0) (aCons (fC (.int 3)) aNil))) (aCons (fC .non) aNil))) (fCall F__law_whole [false, false, false] ar__law_whole_3_ [.val (.bor 0), .val .frz, .val .frz] (aCons (fOp oItm (aCons (fVar 0) (aCons (fC (.int 3)) aNil))) (aCons (fC (.int 0)) (aCons (fC (.int 1000)) aNil))))))))))
def F__law_good_leaf : List D → Fo := runF [false] 2 B__law_good_leaf
def B__law_good_form (F__law_good_form : List D → Fo) : FS := (fSeq (fAsg .own (fDic ["ours", "weather", "then", "beside", "either", "within"] (aCons (fC (.int 3)) (aCons (fC (.int 4)) (aCons (fC (.int 2)) (aCons (fC (.int 2)) (aCons (fC (.int 2)) (aCons (fC (.int 3)) aNil))))))) (gNm 1))
  (fSeq (fIfS (fOr (fNot (fB (fOp (oIsi tab_tuple) (aCons (fVar 0) aNil)))) (fB (fOp oEqF (aCons (fOp oLen (aCons (fVar 0) aNil)) (aCons (fC (.int 0)) aNil))))) (fRet (fC (.bl false))) fNext)
  (fSeq (fIfS (fB (fOp oNeF (aCons (fGet2 (fVar 1) (aCons (fOp oItm (aCons (fVar 0) (aCons (fC (.int 0)) aNil))) (aCons (fOp oNeg (aCons (fC (.int 1)) aNil)) aNil))) (aCons (fOp oLen (aCons (fVar 0) aNil)) aNil)))) (fRet (fC (.bl false))) fNext)
  (fSeq (fIfS (fB (fOp oInAny (aCons (fOp oItm (aCons (fVar 0) (aCons (fC (.int 0)) aNil))) (aCons (fOp oLst (aCons (fC (.str "ours")) (aCons (fC (.str "weather")) aNil))) aNil)))) (fRet (fCall F__law_good_leaf [false] ar__law_good_leaf_1_ [.val (.bor 0)] (aCons (fVar 0) aNil))) fNext)
  (fSeq (fIfS (fB (fOp oEqF (aCons (fOp oItm (aCons (fVar 0) (aCons (fC (.int 0)) aNil))) (aCons (fC (.str "within")) aNil)))) (fRet (fAndV (fCall F__law_whole [false, false, false] ar__law_whole_3_ [.val (.bor 0), .val .frz, .val .frz] (aCons (fOp oItm (aCons (fVar 0) (aCons (fC (.int 1)) aNil))) (aCons (fC (.int 0)) (aCons (fC (.int 1000)) aNil)))) (fCall F__law_good_form [false] ar__law_good_form_1_ [.val (.bor 0)] (aCons (fOp oItm (aCons (fVar 0) (aCons (fC (.int 2)) aNil))) aNil)))) fNext)
  (fSeq (fIfS (fOr (fNot (fB (fOp (oIsi tab_list) (aCons (fOp oItm (aCons (fVar 0) (aCons (fC (.int 1)) aNil))) aNil)))) (fNot (fB (fChain oLe oLe (fC (.int 1)) (fOp oLen (aCons (fOp oItm (aCons (fVar 0) (aCons (fC (.int 1)) aNil))) aNil)) (fC (.int 4)))))) (fRet (fC (.bl false))) fNext)
  (fRet (fOp oAll (aCons (fLc 3 [2] (iAnyD (.bor 0) (fOp oItm (aCons (fVar 0) (aCons (fC (.int 1)) aNil)))) (gNm 2) fYes (fCall F__law_good_form [false] ar__law_good_form_1_ [.val (.bor 2)] (aCons (fVar 2) aNil))) aNil)))))))))
def F__law_good_form_n : Nat → List D → Fo
  | 0 => fun _ => .stuck
  | n + 1 => runF [false] 3 (B__law_good_form (F__law_good_form_n n))
def F__law_good_form : List D → Fo := F__law_good_form_n 8
def B__law_kids : FS := (fSeq (fIfS (fB (fOp oInAny (aCons (fOp oItm (aCons (fVar 0) (aCons (fC (.int 0)) aNil))) (aCons (fOp oLst (aCons (fC (.str "ours")) (aCons (fC (.str "weather")) aNil))) aNil)))) (fRet (fOp oLst aNil)) fNext)
  (fRet (fIf (fB (fOp oEqF (aCons (fOp oItm (aCons (fVar 0) (aCons (fC (.int 0)) aNil))) (aCons (fC (.str "within")) aNil)))) (fOp oLst (aCons (fChk (fOp oItm (aCons (fVar 0) (aCons (fC (.int 2)) aNil)))) aNil)) (fChk (fOp oItm (aCons (fVar 0) (aCons (fC (.int 1)) aNil)))))))
def F__law_kids : List D → Fo := runF [false] 1 B__law_kids
def B__law_leaf_count (F__law_leaf_count : List D → Fo) : FS := (fSeq (fAsg .own (fCall F__law_kids [false] ar__law_kids_1_ [.val (.bor 0)] (aCons (fVar 0) aNil)) (gNm 1))
  (fRet (fIf (fB (fOp (oEq0 true) (aCons (fVar 1) (aCons (fOp oLst aNil) aNil)))) (fC (.int 1)) (fOp oSum (aCons (fLc 3 [2] (iAnyD (.bor 1) (fVar 1)) (gNm 2) fYes (fCall F__law_leaf_count [false] ar__law_leaf_count_1_ [.val (.bor 2)] (aCons (fVar 2) aNil))) aNil)))))
def F__law_leaf_count_n : Nat → List D → Fo
  | 0 => fun _ => .stuck
  | n + 1 => runF [false] 3 (B__law_leaf_count (F__law_leaf_count_n n))
def F__law_leaf_count : List D → Fo := F__law_leaf_count_n 8
def B__law_plan_depth (F__law_plan_depth : List D → Fo) : FS := (fRet (fOp oAdd (aCons (fC (.int 1)) (aCons (fOp (oMaxD 0) (aCons (fLc 2 [1] (iAnyD .own (fCall F__law_kids [false] ar__law_kids_1_ [.val (.bor 0)] (aCons (fVar 0) aNil))) (gNm 1) fYes (fCall F__law_plan_depth [false] ar__law_plan_depth_1_ [.val (.bor 1)] (aCons (fVar 1) aNil))) aNil)) aNil))))
def F__law_plan_depth_n : Nat → List D → Fo
  | 0 => fun _ => .stuck
  | n + 1 => runF [false] 2 (B__law_plan_depth (F__law_plan_depth_n n))
def F__law_plan_depth : List D → Fo := F__law_plan_depth_n 8
def B__law_reading_count (F__law_reading_count : List D → Fo) : FS := (fSeq (fIfS (fB (fOp oEqF (aCons (fOp oItm (aCons (fVar 0) (aCons (fC (.int 0)) aNil))) (aCons (fC (.str "either")) aNil)))) (fRet (fOp oSum (aCons (fLc 3 [2] (iAnyD (.bor 0) (fOp oItm (aCons (fVar 0) (aCons (fC (.int 1)) aNil)))) (gNm 2) fYes (fCall F__law_reading_count [false] ar__law_reading_count_1_ [.val (.bor 2)] (aCons (fVar 2) aNil))) aNil))) fNext)
  (fSeq (fAsg .frz (fC (.int 1)) (gNm 1))
  (fSeq (fForI (iAnyD .own (fCall F__law_kids [false] ar__law_kids_1_ [.val (.bor 0)] (aCons (fVar 0) aNil))) (gNm 2) (fAsg .own (fOp oMul (aCons (fVar 1) (aCons (fCall F__law_reading_count [false] ar__law_reading_count_1_ [.val (.bor 2)] (aCons (fVar 2) aNil)) aNil))) (gNm 1)))
  (fRet (fMv 1)))))
def F__law_reading_count_n : Nat → List D → Fo
  | 0 => fun _ => .stuck
  | n + 1 => runF [false] 3 (B__law_reading_count (F__law_reading_count_n n))
def F__law_reading_count : List D → Fo := F__law_reading_count_n 8
def B__law_good_plan : FS := (fSeq (fIfS (fOr (fNot (fB (fCall F__law_good_form [false] ar__law_good_form_1_ [.val (.bor 0)] (aCons (fVar 0) aNil)))) (fB (fOp oGt (aCons (fCall F__law_plan_depth [false] ar__law_plan_depth_1_ [.val (.bor 0)] (aCons (fVar 0) aNil)) (aCons (fC (.int 6)) aNil))))) (fRet (fC (.bl false))) fNext)
  (fRet (fAndV (fOp oLe (aCons (fCall F__law_leaf_count [false] ar__law_leaf_count_1_ [.val (.bor 0)] (aCons (fVar 0) aNil)) (aCons (fC (.int 12)) aNil))) (fOp oLe (aCons (fCall F__law_reading_count [false] ar__law_reading_count_1_ [.val (.bor 0)] (aCons (fVar 0) aNil)) (aCons (fC (.int 64)) aNil))))))
def F__law_good_plan : List D → Fo := runF [false] 1 B__law_good_plan
def B__law_draw : FS := (fSeq (fIfS (fB (fOp oGt (aCons (fOp oItm (aCons (fVar 0) (aCons (fC (.int 2)) aNil))) (aCons (fC (.int 0)) aNil)))) (fSeq (fAsg .own (fOp oMod (aCons (fOp oItm (aCons (fVar 0) (aCons (fC (.int 2)) aNil))) (aCons (fVar 1) aNil))) (gNm 2))
  (fSeq (fAsg .own (fOp oFdiv (aCons (fOp oItm (aCons (fVar 0) (aCons (fC (.int 2)) aNil))) (aCons (fVar 1) aNil))) (gPl 0 (pVar 0) opSetI (aCons (fC (.int 2)) aNil)))
  (fRet (fMv 2)))) fNext)
  (fSeq (fAsg .frz (fC (.int 0)) (gNm 3))
  (fSeq (fIfS (fB (fOp oLt (aCons (fOp oItm (aCons (fVar 0) (aCons (fC (.int 1)) aNil))) (aCons (fOp oLen (aCons (fOp oItm (aCons (fVar 0) (aCons (fC (.int 0)) aNil))) aNil)) aNil)))) (fAsg (.bor 0) (fOp oItm (aCons (fOp oItm (aCons (fVar 0) (aCons (fC (.int 0)) aNil))) (aCons (fOp oItm (aCons (fVar 0) (aCons (fC (.int 1)) aNil))) aNil))) (gNm 3)) fNext)
  (fSeq (fAsg .own (fOp oAdd (aCons (fOp oItm (aCons (fVar 0) (aCons (fC (.int 1)) aNil))) (aCons (fC (.int 1)) aNil))) (gPl 0 (pVar 0) opSetI (aCons (fC (.int 1)) aNil)))
  (fSeq (fIfS (fB (fOp oGe (aCons (fOp (o1 gAbs) (aCons (fVar 3) aNil)) (aCons (fOp oPow (aCons (fC (.int 10)) (aCons (fC (.int 18)) aNil))) aNil)))) (fSeq (fAsg .own (fOp oFdiv (aCons (fOp (o1 gAbs) (aCons (fVar 3) aNil)) (aCons (fVar 1) aNil))) (gPl 0 (pVar 0) opSetI (aCons (fC (.int 2)) aNil)))
  (fRet (fOp oMod (aCons (fOp (o1 gAbs) (aCons (fVar 3) aNil)) (aCons (fVar 1) aNil))))) fNext)
  (fSeq (fAsg .own (fOp oAdd (aCons (fOp oAdd (aCons (fOp oPow (aCons (fOp oItm (aCons (fVar 0) (aCons (fC (.int 3)) aNil))) (aCons (fC (.int 3)) aNil))) (aCons (fOp oMul (aCons (fOp oItm (aCons (fVar 0) (aCons (fC (.int 3)) aNil))) (aCons (fC (.int 31)) aNil))) aNil))) (aCons (fOp oMul (aCons (fOp oItm (aCons (fVar 0) (aCons (fC (.int 1)) aNil))) (aCons (fC (.int 69621)) aNil))) aNil))) (gNm 4))
  (fSeq (fAsg .own (fOp oMod (aCons (fOp oAdd (aCons (fVar 4) (aCons (fOp oMul (aCons (fOp oMod (aCons (fVar 3) (aCons (fC (.int 2147483629)) aNil))) (aCons (fC (.int 48271)) aNil))) aNil))) (aCons (fC (.int 2147483647)) aNil))) (gNm 4))
  (fSeq (fAsg .frz (fChk (fVar 4)) (gPl 0 (pVar 0) opSetI (aCons (fC (.int 3)) aNil)))
  (fRet (fOp oMod (aCons (fOp oAdd (aCons (fOp oFdiv (aCons (fVar 4) (aCons (fC (.int 8192)) aNil))) (aCons (fOp oMul (aCons (fOp oMod (aCons (fVar 4) (aCons (fC (.int 8191)) aNil))) (aCons (fC (.int 40503)) aNil))) aNil))) (aCons (fVar 1) aNil))))))))))))
def F__law_draw : List D → Fo := runF [true, false] 5 B__law_draw
def B__law_leaf : FS := (fSeq (fIfS (fB (fOp oEqF (aCons (fCall F__law_draw [true, false] ar__law_draw_2_ [.slot 0, .val .frz] (aCons (fSlot 0) (aCons (fC (.int 2)) aNil))) (aCons (fC (.int 0)) aNil)))) (fSeq (fAsg .own (fCall F__law_draw [true, false] ar__law_draw_2_ [.slot 0, .val (.bor 1)] (aCons (fSlot 0) (aCons (fVar 1) aNil))) (gNm 2))
  (fRet (fOp oTup (aCons (fC (.str "ours")) (aCons (fFz 2) (aCons (fOp oAdd (aCons (fChk (fVar 2)) (aCons (fCall F__law_draw [true, false] ar__law_draw_2_ [.slot 0, .val (.bor 1)] (aCons (fSlot 0) (aCons (fVar 1) aNil))) aNil))) aNil)))))) fNext)
  (fSeq (fAsg .own (fOp oAdd (aCons (fC (.int 1)) (aCons (fCall F__law_draw [true, false] ar__law_draw_2_ [.slot 0, .val (.bor 1)] (aCons (fSlot 0) (aCons (fVar 1) aNil))) aNil))) (gNm 2))
  (fSeq (fAsg .own (fOp oItm (aCons (fOp oLst (aCons (fC (.int 0)) (aCons (fC (.int 0)) (aCons (fC .non) (aCons (fOp oAdd (aCons (fC (.int 1)) (aCons (fCall F__law_draw [true, false] ar__law_draw_2_ [.slot 0, .val (.bor 1)] (aCons (fSlot 0) (aCons (fVar 1) aNil))) aNil))) aNil))))) (aCons (fCall F__law_draw [true, false] ar__law_draw_2_ [.slot 0, .val .frz] (aCons (fSlot 0) (aCons (fC (.int 4)) aNil))) aNil))) (gNm 3))
  (fRet (fOp oTup (aCons (fC (.str "weather")) (aCons (fFz 2) (aCons (fOp oAdd (aCons (fChk (fVar 2)) (aCons (fCall F__law_draw [true, false] ar__law_draw_2_ [.slot 0, .val (.bor 1)] (aCons (fSlot 0) (aCons (fVar 1) aNil))) aNil))) (aCons (fChk (fVar 3)) aNil)))))))))
def F__law_leaf : List D → Fo := runF [true, false] 4 B__law_leaf
def B__law_plan (F__law_plan : List D → Fo) : FS := (fSeq (fAsg .own (fCall F__law_draw [true, false] ar__law_draw_2_ [.slot 0, .val .own] (aCons (fSlot 0) (aCons (fOp oAdd (aCons (fC (.int 2)) (aCons (fOp oLen (aCons (fVar 2) aNil)) aNil))) aNil))) (gNm 4))
  (fSeq (fIfS (fOr (fB (fOp oLt (aCons (fVar 1) (aCons (fC (.int 2)) aNil)))) (fB (fOp oLt (aCons (fVar 4) (aCons (fC (.int 2)) aNil))))) (fRet (fCall F__law_leaf [true, false] ar__law_leaf_2_ [.slot 0, .val (.bor 3)] (aCons (fSlot 0) (aCons (fVar 3) aNil)))) fNext)
  (fSeq (fAsg (.bor 2) (fOp oItm (aCons (fVar 2) (aCons (fOp oSub (aCons (fVar 4) (aCons (fC (.int 2)) aNil))) aNil))) (gNm 5))
  (fSeq (fIfS (fB (fOp oEqF (aCons (fVar 5) (aCons (fC (.str "within")) aNil)))) (fRet (fOp oTup (aCons (fChk (fVar 5)) (aCons (fCall F__law_draw [true, false] ar__law_draw_2_ [.slot 0, .val .own] (aCons (fSlot 0) (aCons (fOp oMul (aCons (fC (.int 5)) (aCons (fVar 3) aNil))) aNil))) (aCons (fCall F__law_plan [true, false, false, false] ar__law_plan_4_ [.slot 0, .val .own, .val (.bor 2), .val (.bor 3)] (aCons (fSlot 0) (aCons (fOp oSub (aCons (fVar 1) (aCons (fC (.int 1)) aNil))) (aCons (fVar 2) (aCons (fVar 3) aNil))))) aNil))))) fNext)
  (fSeq (fAsg .own (fOp oAdd (aCons (fC (.int 1)) (aCons (fCall F__law_draw [true, false] ar__law_draw_2_ [.slot 0, .val .frz] (aCons (fSlot 0) (aCons (fC (.int 3)) aNil))) aNil))) (gNm 6))
  (fRet (fOp oTup (aCons (fChk (fVar 5)) (aCons (fLcM 8 [7] (iRngD rng1D (aCons (fVar 6) aNil)) (gNm 7) fYes (fCall F__law_plan [true, false, false, false] ar__law_plan_4_ [.slot 0, .val .own, .val (.bor 2), .val (.bor 3)] (aCons (fSlot 0) (aCons (fOp oSub (aCons (fVar 1) (aCons (fC (.int 1)) aNil))) (aCons (fVar 2) (aCons (fVar 3) aNil)))))) aNil)))))))))
def F__law_plan_n : Nat → List D → Fo
  | 0 => fun _ => .stuck
  | n + 1 => runF [true, false, false, false] 8 (B__law_plan (F__law_plan_n n))
def F__law_plan : List D → Fo := F__law_plan_n 8
def B__law_plan_copy (F__law_plan_copy : List D → Fo) : FS := (fSeq (fIfS (fB (fOp oInAny (aCons (fOp oItm (aCons (fVar 0) (aCons (fC (.int 0)) aNil))) (aCons (fOp oLst (aCons (fC (.str "ours")) (aCons (fC (.str "weather")) aNil))) aNil)))) (fRet (fMv 0)) fNext)
  (fSeq (fIfS (fB (fOp oEqF (aCons (fOp oItm (aCons (fVar 0) (aCons (fC (.int 0)) aNil))) (aCons (fC (.str "within")) aNil)))) (fRet (fOp oAdd (aCons (fSl (fVar 0) (fun env => .ok none env) (fPart (fC (.int 2)))) (aCons (fFrE (fOp oTup (aCons (fCall F__law_plan_copy [false] ar__law_plan_copy_1_ [.val (.bor 0)] (aCons (fOp oItm (aCons (fVar 0) (aCons (fC (.int 2)) aNil))) aNil)) aNil))) aNil)))) fNext)
  (fRet (fOp oTup (aCons (fChk (fOp oItm (aCons (fVar 0) (aCons (fC (.int 0)) aNil)))) (aCons (fLc 2 [1] (iAnyD (.bor 0) (fOp oItm (aCons (fVar 0) (aCons (fC (.int 1)) aNil)))) (gNm 1) fYes (fCall F__law_plan_copy [false] ar__law_plan_copy_1_ [.val (.bor 1)] (aCons (fVar 1) aNil))) aNil))))))
def F__law_plan_copy_n : Nat → List D → Fo
  | 0 => fun _ => .stuck
  | n + 1 => runF [false] 2 (B__law_plan_copy (F__law_plan_copy_n n))
def F__law_plan_copy : List D → Fo := F__law_plan_copy_n 8
def B__law_same (F__law_same : List D → Fo) : FS := (fSeq (fIfS (fB (fOp (oIsi tab_bool) (aCons (fVar 1) aNil))) (fRet (fAndV (fOp (oIsi tab_bool) (aCons (fVar 0) aNil)) (fOp oEqF (aCons (fVar 0) (aCons (fVar 1) aNil))))) fNext)
  (fSeq (fIfS (fB (fOp oIsN (aCons (fVar 1) (aCons (fC .non) aNil)))) (fRet (fOp oIsN (aCons (fVar 0) (aCons (fC .non) aNil)))) fNext)
  (fSeq (fIfS (fB (fOp (oIsi tab_int) (aCons (fVar 1) aNil))) (fSeq (fIfS (fOr (fB (fOp (oIsi tab_bool) (aCons (fVar 0) aNil))) (fNot (fB (fOp (oIsi tab_int) (aCons (fVar 0) aNil))))) (fRet (fC (.bl false))) fNext)
  (fRet (fOp oEqF (aCons (fVar 0) (aCons (fVar 1) aNil))))) fNext)
  (fSeq (fIfS (fB (fOp (oIsi tab_str) (aCons (fVar 1) aNil))) (fRet (fAndV (fOp (oIsi tab_str) (aCons (fVar 0) aNil)) (fOp oEqF (aCons (fVar 0) (aCons (fVar 1) aNil))))) fNext)
  (fSeq (fIfS (fB (fOp (oIsi tab_dict) (aCons (fVar 1) aNil))) (fSeq (fIfS (fOr (fNot (fB (fOp (oIsi tab_dict) (aCons (fVar 0) aNil)))) (fB (fOp oNeF (aCons (fOp oLen (aCons (fVar 0) aNil)) (aCons (fOp oLen (aCons (fVar 1) aNil)) aNil))))) (fRet (fC (.bl false))) fNext)
  (fSeq (fForI (iAnyD (.bor 1) (fVar 1)) (gNm 2) (fIfS (fOr (fB (fOp oNotInAny (aCons (fVar 2) (aCons (fVar 0) aNil)))) (fNot (fB (fCall F__law_same [false, false] ar__law_same_2_ [.val (.bor 0), .val (.bor 1)] (aCons (fOp oItm (aCons (fVar 0) (aCons (fVar 2) aNil))) (aCons (fOp oItm (aCons (fVar 1) (aCons (fVar 2) aNil))) aNil)))))) (fRet (fC (.bl false))) fNext))
  (fRet (fC (.bl true))))) fNext)
  (fSeq (fIfS (fAnd (fB (fOp (oIsi tab_tuple) (aCons (fVar 1) aNil))) (fNot (fB (fOp (oIsi tab_tuple) (aCons (fVar 0) aNil))))) (fRet (fC (.bl false))) fNext)
  (fSeq (fIfS (fAnd (fB (fOp (oIsi tab_list) (aCons (fVar 1) aNil))) (fNot (fB (fOp (oIsi tab_list) (aCons (fVar 0) aNil))))) (fRet (fC (.bl false))) fNext)
  (fSeq (fIfS (fB (fOp oNeF (aCons (fOp oLen (aCons (fVar 0) aNil)) (aCons (fOp oLen (aCons (fVar 1) aNil)) aNil)))) (fRet (fC (.bl false))) fNext)
  (fRet (fOp oAll (aCons (fLc 4 [3] (iRngD rng1D (aCons (fOp oLen (aCons (fVar 1) aNil)) aNil)) (gNm 3) fYes (fCall F__law_same [false, false] ar__law_same_2_ [.val (.bor 0), .val (.bor 1)] (aCons (fOp oItm (aCons (fVar 0) (aCons (fVar 3) aNil))) (aCons (fOp oItm (aCons (fVar 1) (aCons (fVar 3) aNil))) aNil)))) aNil)))))))))))
def F__law_same_n : Nat → List D → Fo
  | 0 => fun _ => .stuck
  | n + 1 => runF [false, false] 4 (B__law_same (F__law_same_n n))
def F__law_same : List D → Fo := F__law_same_n 16
def B__law_ways (F__law_ways : List D → Fo) : FS := (fSeq (fIfS (fB (fOp oEqF (aCons (fOp oItm (aCons (fVar 0) (aCons (fC (.int 0)) aNil))) (aCons (fC (.str "either")) aNil)))) (fSeq (fAsg .own (fOp oLst aNil) (gNm 1))
  (fSeq (fForI (iAnyD (.bor 0) (fOp oItm (aCons (fVar 0) (aCons (fC (.int 1)) aNil)))) (gNm 2) (fAsg .own (fOp oAdd (aCons (fVar 1) (aCons (fCall F__law_ways [false] ar__law_ways_1_ [.val (.bor 2)] (aCons (fVar 2) aNil)) aNil))) (gNm 1)))
  (fRet (fMv 1)))) fNext)
  (fSeq (fIfS (fB (fOp oEqF (aCons (fOp oItm (aCons (fVar 0) (aCons (fC (.int 0)) aNil))) (aCons (fC (.str "within")) aNil)))) (fRet (fLcM 7 [2] (iAnyD .own (fCall F__law_ways [false] ar__law_ways_1_ [.val (.bor 0)] (aCons (fOp oItm (aCons (fVar 0) (aCons (fC (.int 2)) aNil))) aNil))) (gNm 2) fYes (fFrE (fOp oAdd (aCons (fSl (fVar 0) (fun env => .ok none env) (fPart (fC (.int 2)))) (aCons (fOp oTup (aCons (fChk (fVar 2)) aNil)) aNil)))))) fNext)
  (fSeq (fIfS (fB (fOp oInAny (aCons (fOp oItm (aCons (fVar 0) (aCons (fC (.int 0)) aNil))) (aCons (fOp oLst (aCons (fC (.str "ours")) (aCons (fC (.str "weather")) aNil))) aNil)))) (fRet (fOp oLst (aCons (fChk (fVar 0)) aNil))) fNext)
  (fSeq (fAsg .frz (fFrE (fOp oLst (aCons (fOp oLst aNil) aNil))) (gNm 3))
  (fSeq (fForI (iAnyD (.bor 0) (fOp oItm (aCons (fVar 0) (aCons (fC (.int 1)) aNil)))) (gNm 4) (fSeq (fAsg .frz (fFrE (fOp oLst aNil)) (gNm 5))
  (fSeq (fForI (iAnyD (.bor 3) (fVar 3)) (gNm 6) (fAsg .frz (fFrE (fOp oAdd (aCons (fChk (fVar 5)) (aCons (fLcM 7 [2] (iAnyD .own (fCall F__law_ways [false] ar__law_ways_1_ [.val (.bor 4)] (aCons (fVar 4) aNil))) (gNm 2) fYes (fFrE (fOp oAdd (aCons (fVar 6) (aCons (fOp oLst (aCons (fChk (fVar 2)) aNil)) aNil))))) aNil)))) (gNm 5)))
  (fAsg .frz (fFrE (fFz 5)) (gNm 3)))))
  (fRet (fLcM 7 [6] (iAnyD .frz (fFz 3)) (gNm 6) fYes (fFrE (fOp oTup (aCons (fChk (fOp oItm (aCons (fVar 0) (aCons (fC (.int 0)) aNil)))) (aCons (fChk (fVar 6)) aNil)))))))))))
def F__law_ways_n : Nat → List D → Fo
  | 0 => fun _ => .stuck
  | n + 1 => runF [false] 7 (B__law_ways (F__law_ways_n n))
def F__law_ways : List D → Fo := F__law_ways_n 8
def B__law_wreck (F__law_wreck : List D → Fo) : FS := (fSeq (fWrk F__law_wreck)
  (fIfS (fB (fOp oNotInAny (aCons (fOp oItm (aCons (fVar 0) (aCons (fC (.int 0)) aNil))) (aCons (fOp oLst (aCons (fC (.str "ours")) (aCons (fC (.str "weather")) (aCons (fC (.str "within")) aNil)))) aNil)))) (fExpr (fMut 0 (pIx (pVar 0) (fC (.int 1))) "list" (aCons (fOp oTup (aCons (fC (.str "ours")) (aCons (fC (.int 9)) (aCons (fC (.int 9)) aNil)))) aNil) opAppend)) fNext))
def F__law_wreck_n : Nat → List D → Fo
  | 0 => fun _ => .stuck
  | n + 1 => runF [true] 2 (B__law_wreck (F__law_wreck_n n))
def F__law_wreck : List D → Fo := F__law_wreck_n 8
def B_anew (F_anew : List D → Fo) : FS := (fSeq (fAsg (.bor 0) (fVar 0) (gStarD 1 (gsCons (gNm 1) (gsCons (gNm 2) gsNil))))
  (fSeq (fIfS (fB (fOp oEqF (aCons (fVar 1) (aCons (fC (.str "within")) aNil)))) (fRet (fOp oTup (aCons (fChk (fVar 1)) (aCons (fChk (fOp oItm (aCons (fVar 2) (aCons (fC (.int 0)) aNil)))) (aCons (fCall F_anew [false] ar_anew_1_ [.val (.bor 2)] (aCons (fOp oItm (aCons (fVar 2) (aCons (fC (.int 1)) aNil))) aNil)) aNil))))) fNext)
  (fRet (fIf (fB (fOp oInAny (aCons (fVar 1) (aCons (fOp oTup (aCons (fC (.str "ours")) (aCons (fC (.str "weather")) aNil))) aNil)))) (fChk (fVar 0)) (fOp oTup (aCons (fChk (fVar 1)) (aCons (fLc 4 [3] (iAnyD (.bor 2) (fOp oItm (aCons (fVar 2) (aCons (fC (.int 0)) aNil)))) (gNm 3) fYes (fCall F_anew [false] ar_anew_1_ [.val (.bor 3)] (aCons (fVar 3) aNil))) aNil)))))))
def F_anew_n : Nat → List D → Fo
  | 0 => fun _ => .stuck
  | n + 1 => runF [false] 4 (B_anew (F_anew_n n))
def F_anew : List D → Fo := F_anew_n 8
def B_parts_of : FS := (fSeq (fIfS (fB (fOp oInAny (aCons (fOp oItm (aCons (fVar 0) (aCons (fC (.int 0)) aNil))) (aCons (fOp oTup (aCons (fC (.str "ours")) (aCons (fC (.str "weather")) aNil))) aNil)))) (fRet (fOp oLst aNil)) fNext)
  (fRet (fIf (fB (fOp oEqF (aCons (fOp oItm (aCons (fVar 0) (aCons (fC (.int 0)) aNil))) (aCons (fC (.str "within")) aNil)))) (fOp oLst (aCons (fChk (fOp oItm (aCons (fVar 0) (aCons (fC (.int 2)) aNil)))) aNil)) (fChk (fOp oItm (aCons (fVar 0) (aCons (fC (.int 1)) aNil)))))))
def F_parts_of : List D → Fo := runF [false] 1 B_parts_of
def B_choices (F_choices : List D → Fo) : FS := (fSeq (fIfS (fB (fOp oEqF (aCons (fOp oItm (aCons (fVar 0) (aCons (fC (.int 0)) aNil))) (aCons (fC (.str "either")) aNil)))) (fRet (fOp oSum (aCons (fLc 3 [2] (iAnyD (.bor 0) (fOp oItm (aCons (fVar 0) (aCons (fC (.int 1)) aNil)))) (gNm 2) fYes (fCall F_choices [false] ar_choices_1_ [.val (.bor 2)] (aCons (fVar 2) aNil))) aNil))) fNext)
  (fSeq (fAsg .frz (fC (.int 1)) (gNm 1))
  (fSeq (fForI (iAnyD .own (fCall F_parts_of [false] ar_parts_of_1_ [.val (.bor 0)] (aCons (fVar 0) aNil))) (gNm 2) (fAsg .own (fOp oMul (aCons (fVar 1) (aCons (fCall F_choices [false] ar_choices_1_ [.val (.bor 2)] (aCons (fVar 2) aNil)) aNil))) (gNm 1)))
  (fRet (fMv 1)))))
def F_choices_n : Nat → List D → Fo
  | 0 => fun _ => .stuck
  | n + 1 => runF [false] 3 (B_choices (F_choices_n n))
def F_choices : List D → Fo := F_choices_n 8
def B_is_within : FS := (fRet (fAndV (fOp (oIsi tab_int) (aCons (fVar 0) aNil)) (fAndV (fNotV (fOp (oIsi tab_bool) (aCons (fVar 0) aNil))) (fChain oLe oLe (fVar 1) (fVar 0) (fVar 2)))))
def F_is_within : List D → Fo := runF [false, false, false] 3 B_is_within
def B_is_leaf : FS := (fSeq (fAsg (.bor 0) (fVar 0) (gStarD 3 (gsCons (gNm 1) (gsCons (gNm 2) (gsCons (gNm 3) (gsCons (gNm 4) gsNil))))))
  (fSeq (fIfS (fB (fOp oEqF (aCons (fVar 1) (aCons (fC (.str "ours")) aNil)))) (fRet (fAndV (fCall F_is_within [false, false, false] ar_is_within_3_ [.val (.bor 2), .val .frz, .val .frz] (aCons (fVar 2) (aCons (fC (.int 0)) (aCons (fC (.int 1000)) aNil)))) (fCall F_is_within [false, false, false] ar_is_within_3_ [.val (.bor 3), .val (.bor 2), .val .frz] (aCons (fVar 3) (aCons (fVar 2) (aCons (fC (.int 1000)) aNil)))))) fNext)
  (fSeq (fAsg .own (fOrV (fOp oIsN (aCons (fOp oItm (aCons (fVar 4) (aCons (fC (.int 0)) aNil))) (aCons (fC .non) aNil))) (fCall F_is_within [false, false, false] ar_is_within_3_ [.val (.bor 4), .val .frz, .val .frz] (aCons (fOp oItm (aCons (fVar 4) (aCons (fC (.int 0)) aNil))) (aCons (fC (.int 0)) (aCons (fC (.int 1000)) aNil))))) (gNm 5))
  (fRet (fAndV (fVar 5) (fAndV (fCall F_is_within [false, false, false] ar_is_within_3_ [.val (.bor 2), .val .frz, .val .frz] (aCons (fVar 2) (aCons (fC (.int 1)) (aCons (fC (.int 1000)) aNil)))) (fCall F_is_within [false, false, false] ar_is_within_3_ [.val (.bor 3), .val (.bor 2), .val .frz] (aCons (fVar 3) (aCons (fVar 2) (aCons (fC (.int 1000)) aNil))))))))))
def F_is_leaf : List D → Fo := runF [false] 6 B_is_leaf
def B_is_formed (F_is_formed : List D → Fo) : FS := (fSeq (fIfS (fOr (fB (fOp oEqF (aCons (fVar 1) (aCons (fC (.int 0)) aNil)))) (fOr (fNot (fB (fOp (oIsi tab_tuple) (aCons (fVar 0) aNil)))) (fOr (fB (fOp oEqF (aCons (fOp oLen (aCons (fVar 0) aNil)) (aCons (fC (.int 0)) aNil)))) (fNot (fB (fOp (oIsi tab_str) (aCons (fOp oItm (aCons (fVar 0) (aCons (fC (.int 0)) aNil))) aNil))))))) (fRet (fC (.bl false))) fNext)
  (fSeq (fIfS (fB (fOp oNeF (aCons (fOp (oTabGet gt_SIZES) (aCons (fOp oItm (aCons (fVar 0) (aCons (fC (.int 0)) aNil))) (aCons (fC (.int 0)) aNil))) (aCons (fOp oLen (aCons (fVar 0) aNil)) aNil)))) (fRet (fC (.bl false))) fNext)
  (fSeq (fIfS (fB (fOp oInAny (aCons (fOp oItm (aCons (fVar 0) (aCons (fC (.int 0)) aNil))) (aCons (fOp oTup (aCons (fC (.str "ours")) (aCons (fC (.str "weather")) aNil))) aNil)))) (fRet (fCall F_is_leaf [false] ar_is_leaf_1_ [.val (.bor 0)] (aCons (fVar 0) aNil))) fNext)
  (fSeq (fIfS (fB (fOp oEqF (aCons (fOp oItm (aCons (fVar 0) (aCons (fC (.int 0)) aNil))) (aCons (fC (.str "within")) aNil)))) (fRet (fAndV (fCall F_is_within [false, false, false] ar_is_within_3_ [.val (.bor 0), .val .frz, .val .frz] (aCons (fOp oItm (aCons (fVar 0) (aCons (fC (.int 1)) aNil))) (aCons (fC (.int 0)) (aCons (fC (.int 1000)) aNil)))) (fCall F_is_formed [false, false] ar_is_formed_2_ [.val (.bor 0), .val .own] (aCons (fOp oItm (aCons (fVar 0) (aCons (fC (.int 2)) aNil))) (aCons (fOp oSub (aCons (fVar 1) (aCons (fC (.int 1)) aNil))) aNil))))) fNext)
  (fSeq (fAsg (.bor 0) (fOp oItm (aCons (fVar 0) (aCons (fC (.int 1)) aNil))) (gNm 2))
  (fSeq (fIfS (fOr (fNot (fB (fOp (oIsi tab_list) (aCons (fVar 2) aNil)))) (fNot (fB (fChain oLe oLe (fC (.int 1)) (fOp oLen (aCons (fVar 2) aNil)) (fC (.int 4)))))) (fRet (fC (.bl false))) fNext)
  (fRet (fOp oAll (aCons (fLc 4 [3] (iAnyD (.bor 2) (fVar 2)) (gNm 3) fYes (fCall F_is_formed [false, false] ar_is_formed_2_ [.val (.bor 3), .val .own] (aCons (fVar 3) (aCons (fOp oSub (aCons (fVar 1) (aCons (fC (.int 1)) aNil))) aNil)))) aNil)))))))))
def F_is_formed_n : Nat → List D → Fo
  | 0 => fun _ => .stuck
  | n + 1 => runF [false, false] 4 (B_is_formed (F_is_formed_n n))
def F_is_formed : List D → Fo := F_is_formed_n 8
def B_leaves (F_leaves : List D → Fo) : FS := (fRet (fOp oMax2 (aCons (fC (.int 1)) (aCons (fOp oSum (aCons (fLc 2 [1] (iAnyD .own (fCall F_parts_of [false] ar_parts_of_1_ [.val (.bor 0)] (aCons (fVar 0) aNil))) (gNm 1) fYes (fCall F_leaves [false] ar_leaves_1_ [.val (.bor 1)] (aCons (fVar 1) aNil))) aNil)) aNil))))
def F_leaves_n : Nat → List D → Fo
  | 0 => fun _ => .stuck
  | n + 1 => runF [false] 2 (B_leaves (F_leaves_n n))
def F_leaves : List D → Fo := F_leaves_n 8
def B_need_plan : FS := (fIfS (fOr (fNot (fB (fCall F_is_formed [false, false] ar_is_formed_2_ [.val (.bor 0), .val .frz] (aCons (fVar 0) (aCons (fC (.int 6)) aNil))))) (fOr (fB (fOp oGt (aCons (fCall F_leaves [false] ar_leaves_1_ [.val (.bor 0)] (aCons (fVar 0) aNil)) (aCons (fC (.int 12)) aNil)))) (fB (fOp oGt (aCons (fCall F_choices [false] ar_choices_1_ [.val (.bor 0)] (aCons (fVar 0) aNil)) (aCons (fC (.int 64)) aNil)))))) fNevS fNext)
def F_need_plan : List D → Fo := runF [false] 1 B_need_plan
def B_ways (F_ways : List D → Fo) : FS := (fSeq (fAsg (.bor 0) (fOp oItm (aCons (fVar 0) (aCons (fC (.int 0)) aNil))) (gNm 1))
  (fSeq (fIfS (fB (fOp oEqF (aCons (fVar 1) (aCons (fC (.str "either")) aNil)))) (fRet (fLc2 6 [3, 4] (iAnyD (.bor 0) (fOp oItm (aCons (fVar 0) (aCons (fC (.int 1)) aNil)))) (gNm 3) fYes .own (fCall F_ways [false] ar_ways_1_ [.val (.bor 3)] (aCons (fVar 3) aNil)) [4] (gNm 4) fYes (fChk (fVar 4)))) fNext)
  (fSeq (fIfS (fB (fOp oEqF (aCons (fVar 1) (aCons (fC (.str "within")) aNil)))) (fRet (fLcM 6 [4] (iAnyD .own (fCall F_ways [false] ar_ways_1_ [.val (.bor 0)] (aCons (fOp oItm (aCons (fVar 0) (aCons (fC (.int 2)) aNil))) aNil))) (gNm 4) fYes (fFrE (fOp oTup (aCons (fC (.str "within")) (aCons (fChk (fOp oItm (aCons (fVar 0) (aCons (fC (.int 1)) aNil)))) (aCons (fChk (fVar 4)) aNil))))))) fNext)
  (fSeq (fIfS (fB (fOp oInAny (aCons (fVar 1) (aCons (fOp oTup (aCons (fC (.str "ours")) (aCons (fC (.str "weather")) aNil))) aNil)))) (fRet (fOp oLst (aCons (fChk (fVar 0)) aNil))) fNext)
  (fSeq (fAsg .own (fOp oLst (aCons (fOp oLst aNil) aNil)) (gNm 2))
  (fSeq (fForI (iAnyD (.bor 0) (fOp oItm (aCons (fVar 0) (aCons (fC (.int 1)) aNil)))) (gNm 3) (fAsg .own (fLc2 6 [5, 4] (iAnyD (.bor 2) (fVar 2)) (gNm 5) fYes .own (fCall F_ways [false] ar_ways_1_ [.val (.bor 3)] (aCons (fVar 3) aNil)) [4] (gNm 4) fYes (fOp oAdd (aCons (fVar 5) (aCons (fOp oLst (aCons (fChk (fVar 4)) aNil)) aNil)))) (gNm 2)))
  (fRet (fLcM 6 [5] (iAnyD .frz (fFz 2)) (gNm 5) fYes (fFrE (fOp oTup (aCons (fChk (fVar 1)) (aCons (fOp oList (aCons (fVar 5) aNil)) aNil))))))))))))
def F_ways_n : Nat → List D → Fo
  | 0 => fun _ => .stuck
  | n + 1 => runF [false] 6 (B_ways (F_ways_n n))
def F_ways : List D → Fo := F_ways_n 8
def E_readings_1 := (fCall F_anew [false] ar_anew_1_ [.val (.bor 1)] (aCons (fVar 1) aNil))
def T_readings_1 := fYes
def G_readings_1 := (gNm 1)
def B_readings : FS := (fSeq (fExpr (fCall F_need_plan [false] ar_need_plan_1_ [.val (.bor 0)] (aCons (fVar 0) aNil)))
  (fRet (fLc 2 [1] (iAnyD .own (fCall F_ways [false] ar_ways_1_ [.val (.bor 0)] (aCons (fVar 0) aNil))) G_readings_1 T_readings_1 E_readings_1)))
def F_readings : List D → Fo := runF [false] 2 B_readings
def L_law_1 : FS := (fSeq (fAsg .own (fCall F_readings [false] ar_readings_1_ [.val (.bor 5)] (aCons (fVar 5) aNil)) (gNm 8))
  (fSeq (fIfS (fOr (fNot (fB (fCall F__law_same [false, false] ar__law_same_2_ [.val (.bor 8), .val (.bor 6)] (aCons (fVar 8) (aCons (fVar 6) aNil))))) (fNot (fB (fCall F__law_same [false, false] ar__law_same_2_ [.val (.bor 5), .val (.bor 4)] (aCons (fVar 5) (aCons (fVar 4) aNil)))))) (fRet (fC (.bl false))) fNext)
  (fSeq (fExpr (fLendI F__law_wreck 8 0))
  (fSeq (fIfS (fOr (fNot (fB (fZ [8, 6] (fCall F__law_same [false, false] ar__law_same_2_ [.val .own, .val .own] (aCons (fSl (fVar 8) (fPart (fC (.int 1))) (fun env => .ok none env)) (aCons (fSl (fVar 6) (fPart (fC (.int 1))) (fun env => .ok none env)) aNil)))))) (fNot (fB (fCall F__law_same [false, false] ar__law_same_2_ [.val (.bor 5), .val (.bor 4)] (aCons (fVar 5) (aCons (fVar 4) aNil)))))) (fRet (fC (.bl false))) fNext)
  (fExpr (fMut 8 (pVar 8) "list" aNil opRev))))))
def G_law_1 := (gNm 7)
def L_law_2 : FS := (fSeq (fAsg .frz (fFrE (fCall F__law_plan [true, false, false, false] ar__law_plan_4_ [.slot 1, .val .frz, .val (.bor 2), .val .frz] (aCons (fSlot 1) (aCons (fC (.int 4)) (aCons (fVar 2) (aCons (fC (.int 9)) aNil)))))) (gNm 4))
  (fIfS (fB (fCall F__law_good_plan [false] ar__law_good_plan_1_ [.val (.bor 4)] (aCons (fVar 4) aNil))) (fSeq (fAsg .frz (fFrE (fCall F__law_plan_copy [false] ar__law_plan_copy_1_ [.val (.bor 4)] (aCons (fVar 4) aNil))) (gNm 5))
  (fSeq (fAsg .own (fCall F__law_ways [false] ar__law_ways_1_ [.val (.bor 4)] (aCons (fVar 4) aNil)) (gNm 6))
  (fForR rng1D (aCons (fC (.int 2)) aNil) G_law_1 L_law_1))) fNext))
def G_law_2 := (gNm 3)
def B_law : FS := (fSeq (fAsg .own (fCall F__law_flow [false] ar__law_flow_1_ [.val (.bor 0)] (aCons (fVar 0) aNil)) (gNm 1))
  (fSeq (fAsg .frz (fFrE (fOp oLst (aCons (fC (.str "then")) (aCons (fC (.str "either")) (aCons (fC (.str "beside")) (aCons (fC (.str "either")) (aCons (fC (.str "within")) aNil))))))) (gNm 2))
  (fSeq (fForR rng1D (aCons (fC (.int 4)) aNil) G_law_2 L_law_2)
  (fRet (fCall F__law_same [false, false] ar__law_same_2_ [.val .own, .val .own] (aCons (fCall F_readings [false] ar_readings_1_ [.val .own] (aCons (fOp oTup (aCons (fC (.str "ours")) (aCons (fC (.int 1)) (aCons (fC (.int 2)) aNil)))) aNil)) (aCons (fOp oLst (aCons (fOp oTup (aCons (fC (.str "ours")) (aCons (fC (.int 1)) (aCons (fC (.int 2)) aNil)))) aNil)) aNil)))))))
def F_law : List D → Fo := runF [false] 9 B_law
end My
namespace My
open PySem PySem.Spec L2 DL
theorem ob_eq (s : PySem.W.SharedT) : ob s = hkY.obs s.abs := obsY_eq asN fa2 fn [(fun K => He.ga K "SIZES", ["ours", "weather", "then", "beside", "either", "within"])] [] ex (HandSHeadRun.getT_eq s)
theorem runA (w : World) : RunA RR (PySem.W.view RR.prog [38]) 20000 loose w :=
  PySem.W.byRow2 "special-get-raises" (P := fun w => RunA RR (PySem.W.view RR.prog [38]) 20000 loose w) runA_false runA_true w
theorem runB (w : World) : RunB RR hkY ob 20000 w :=
  PySem.W.byRow2 "special-get-raises" (P := fun w => RunB RR hkY ob 20000 w) runB_false runB_true w
theorem run (w : World) : HandSHeadRun.RunEq RR (PySem.W.view RR.prog [38]) hkY ob 20000 loose w := run_two (runA w) (runB w)
end My
namespace PL
open PySem PySem.Spec L2 DL
section
variable {α : Type} {l : List α} {a0 a1 a2 a3 a4 a5 a6 a7 a8 a9 a10 a11 a12 a13 a14 a15 a16 a17 a18 a19 a20 a21 a22 a23 : α}
@[simp 3000] theorem gt0 : (a0 :: l)[0]? = some a0 := (rfl)
@[simp 3000] theorem sg0 {x : α} : (a0 :: l).set 0 x = x :: l := (rfl)
@[simp 3000] theorem gt1 : (a0 :: a1 :: l)[1]? = some a1 := (rfl)
@[simp 3000] theorem sg1 {x : α} : (a0 :: a1 :: l).set 1 x = a0 :: x :: l := (rfl)
@[simp 3000] theorem gt2 : (a0 :: a1 :: a2 :: l)[2]? = some a2 := (rfl)
@[simp 3000] theorem sg2 {x : α} : (a0 :: a1 :: a2 :: l).set 2 x = a0 :: a1 :: x :: l := (rfl)
@[simp 3000] theorem gt3 : (a0 :: a1 :: a2 :: a3 :: l)[3]? = some a3 := (rfl)
@[simp 3000] theorem sg3 {x : α} : (a0 :: a1 :: a2 :: a3 :: l).set 3 x = a0 :: a1 :: a2 :: x :: l := (rfl)
@[simp 3000] theorem gt4 : (a0 :: a1 :: a2 :: a3 :: a4 :: l)[4]? = some a4 := (rfl)
@[simp 3000] theorem sg4 {x : α} : (a0 :: a1 :: a2 :: a3 :: a4 :: l).set 4 x = a0 :: a1 :: a2 :: a3 :: x :: l := (rfl)
@[simp 3000] theorem gt5 : (a0 :: a1 :: a2 :: a3 :: a4 :: a5 :: l)[5]? = some a5 := (rfl)
@[simp 3000] theorem sg5 {x : α} : (a0 :: a1 :: a2 :: a3 :: a4 :: a5 :: l).set 5 x = a0 :: a1 :: a2 :: a3 :: a4 :: x :: l := (rfl)
@[simp 3000] theorem gt6 : (a0 :: a1 :: a2 :: a3 :: a4 :: a5 :: a6 :: l)[6]? = some a6 := (rfl)
@[simp 3000] theorem sg6 {x : α} : (a0 :: a1 :: a2 :: a3 :: a4 :: a5 :: a6 :: l).set 6 x = a0 :: a1 :: a2 :: a3 :: a4 :: a5 :: x :: l := (rfl)
@[simp 3000] theorem gt7 : (a0 :: a1 :: a2 :: a3 :: a4 :: a5 :: a6 :: a7 :: l)[7]? = some a7 := (rfl)
@[simp 3000] theorem sg7 {x : α} : (a0 :: a1 :: a2 :: a3 :: a4 :: a5 :: a6 :: a7 :: l).set 7 x = a0 :: a1 :: a2 :: a3 :: a4 :: a5 :: a6 :: x :: l := (rfl)
@[simp 3000] theorem gt8 : (a0 :: a1 :: a2 :: a3 :: a4 :: a5 :: a6 :: a7 :: a8 :: l)[8]? = some a8 := (rfl)
@[simp 3000] theorem sg8 {x : α} : (a0 :: a1 :: a2 :: a3 :: a4 :: a5 :: a6 :: a7 :: a8 :: l).set 8 x = a0 :: a1 :: a2 :: a3 :: a4 :: a5 :: a6 :: a7 :: x :: l := (rfl)
@[simp 3000] theorem gt9 : (a0 :: a1 :: a2 :: a3 :: a4 :: a5 :: a6 :: a7 :: a8 :: a9 :: l)[9]? = some a9 := (rfl)
@[simp 3000] theorem sg9 {x : α} : (a0 :: a1 :: a2 :: a3 :: a4 :: a5 :: a6 :: a7 :: a8 :: a9 :: l).set 9 x = a0 :: a1 :: a2 :: a3 :: a4 :: a5 :: a6 :: a7 :: a8 :: x :: l := (rfl)
@[simp 3000] theorem gt10 : (a0 :: a1 :: a2 :: a3 :: a4 :: a5 :: a6 :: a7 :: a8 :: a9 :: a10 :: l)[10]? = some a10 := (rfl)
@[simp 3000] theorem sg10 {x : α} : (a0 :: a1 :: a2 :: a3 :: a4 :: a5 :: a6 :: a7 :: a8 :: a9 :: a10 :: l).set 10 x = a0 :: a1 :: a2 :: a3 :: a4 :: a5 :: a6 :: a7 :: a8 :: a9 :: x :: l := (rfl)
@[simp 3000] theorem gt11 : (a0 :: a1 :: a2 :: a3 :: a4 :: a5 :: a6 :: a7 :: a8 :: a9 :: a10 :: a11 :: l)[11]? = some a11 := (rfl)
@[simp 3000] theorem sg11 {x : α} : (a0 :: a1 :: a2 :: a3 :: a4 :: a5 :: a6 :: a7 :: a8 :: a9 :: a10 :: a11 :: l).set 11 x = a0 :: a1 :: a2 :: a3 :: a4 :: a5 :: a6 :: a7 :: a8 :: a9 :: a10 :: x :: l := (rfl)
@[simp 3000] theorem gt12 : (a0 :: a1 :: a2 :: a3 :: a4 :: a5 :: a6 :: a7 :: a8 :: a9 :: a10 :: a11 :: a12 :: l)[12]? = some a12 := (rfl)
@[simp 3000] theorem sg12 {x : α} : (a0 :: a1 :: a2 :: a3 :: a4 :: a5 :: a6 :: a7 :: a8 :: a9 :: a10 :: a11 :: a12 :: l).set 12 x = a0 :: a1 :: a2 :: a3 :: a4 :: a5 :: a6 :: a7 :: a8 :: a9 :: a10 :: a11 :: x :: l := (rfl)
@[simp 3000] theorem gt13 : (a0 :: a1 :: a2 :: a3 :: a4 :: a5 :: a6 :: a7 :: a8 :: a9 :: a10 :: a11 :: a12 :: a13 :: l)[13]? = some a13 := (rfl)
@[simp 3000] theorem sg13 {x : α} : (a0 :: a1 :: a2 :: a3 :: a4 :: a5 :: a6 :: a7 :: a8 :: a9 :: a10 :: a11 :: a12 :: a13 :: l).set 13 x = a0 :: a1 :: a2 :: a3 :: a4 :: a5 :: a6 :: a7 :: a8 :: a9 :: a10 :: a11 :: a12 :: x :: l := (rfl)
@[simp 3000] theorem gt14 : (a0 :: a1 :: a2 :: a3 :: a4 :: a5 :: a6 :: a7 :: a8 :: a9 :: a10 :: a11 :: a12 :: a13 :: a14 :: l)[14]? = some a14 := (rfl)
@[simp 3000] theorem sg14 {x : α} : (a0 :: a1 :: a2 :: a3 :: a4 :: a5 :: a6 :: a7 :: a8 :: a9 :: a10 :: a11 :: a12 :: a13 :: a14 :: l).set 14 x = a0 :: a1 :: a2 :: a3 :: a4 :: a5 :: a6 :: a7 :: a8 :: a9 :: a10 :: a11 :: a12 :: a13 :: x :: l := (rfl)
@[simp 3000] theorem gt15 : (a0 :: a1 :: a2 :: a3 :: a4 :: a5 :: a6 :: a7 :: a8 :: a9 :: a10 :: a11 :: a12 :: a13 :: a14 :: a15 :: l)[15]? = some a15 := (rfl)
@[simp 3000] theorem sg15 {x : α} : (a0 :: a1 :: a2 :: a3 :: a4 :: a5 :: a6 :: a7 :: a8 :: a9 :: a10 :: a11 :: a12 :: a13 :: a14 :: a15 :: l).set 15 x = a0 :: a1 :: a2 :: a3 :: a4 :: a5 :: a6 :: a7 :: a8 :: a9 :: a10 :: a11 :: a12 :: a13 :: a14 :: x :: l := (rfl)
@[simp 3000] theorem gt16 : (a0 :: a1 :: a2 :: a3 :: a4 :: a5 :: a6 :: a7 :: a8 :: a9 :: a10 :: a11 :: a12 :: a13 :: a14 :: a15 :: a16 :: l)[16]? = some a16 := (rfl)
@[simp 3000] theorem sg16 {x : α} : (a0 :: a1 :: a2 :: a3 :: a4 :: a5 :: a6 :: a7 :: a8 :: a9 :: a10 :: a11 :: a12 :: a13 :: a14 :: a15 :: a16 :: l).set 16 x = a0 :: a1 :: a2 :: a3 :: a4 :: a5 :: a6 :: a7 :: a8 :: a9 :: a10 :: a11 :: a12 :: a13 :: a14 :: a15 :: x :: l := (rfl)
@[simp 3000] theorem gt17 : (a0 :: a1 :: a2 :: a3 :: a4 :: a5 :: a6 :: a7 :: a8 :: a9 :: a10 :: a11 :: a12 :: a13 :: a14 :: a15 :: a16 :: a17 :: l)[17]? = some a17 := (rfl)
@[simp 3000] theorem sg17 {x : α} : (a0 :: a1 :: a2 :: a3 :: a4 :: a5 :: a6 :: a7 :: a8 :: a9 :: a10 :: a11 :: a12 :: a13 :: a14 :: a15 :: a16 :: a17 :: l).set 17 x = a0 :: a1 :: a2 :: a3 :: a4 :: a5 :: a6 :: a7 :: a8 :: a9 :: a10 :: a11 :: a12 :: a13 :: a14 :: a15 :: a16 :: x :: l := (rfl)
@[simp 3000] theorem gt18 : (a0 :: a1 :: a2 :: a3 :: a4 :: a5 :: a6 :: a7 :: a8 :: a9 :: a10 :: a11 :: a12 :: a13 :: a14 :: a15 :: a16 :: a17 :: a18 :: l)[18]? = some a18 := (rfl)
@[simp 3000] theorem sg18 {x : α} : (a0 :: a1 :: a2 :: a3 :: a4 :: a5 :: a6 :: a7 :: a8 :: a9 :: a10 :: a11 :: a12 :: a13 :: a14 :: a15 :: a16 :: a17 :: a18 :: l).set 18 x = a0 :: a1 :: a2 :: a3 :: a4 :: a5 :: a6 :: a7 :: a8 :: a9 :: a10 :: a11 :: a12 :: a13 :: a14 :: a15 :: a16 :: a17 :: x :: l := (rfl)
@[simp 3000] theorem gt19 : (a0 :: a1 :: a2 :: a3 :: a4 :: a5 :: a6 :: a7 :: a8 :: a9 :: a10 :: a11 :: a12 :: a13 :: a14 :: a15 :: a16 :: a17 :: a18 :: a19 :: l)[19]? = some a19 := (rfl)
@[simp 3000] theorem sg19 {x : α} : (a0 :: a1 :: a2 :: a3 :: a4 :: a5 :: a6 :: a7 :: a8 :: a9 :: a10 :: a11 :: a12 :: a13 :: a14 :: a15 :: a16 :: a17 :: a18 :: a19 :: l).set 19 x = a0 :: a1 :: a2 :: a3 :: a4 :: a5 :: a6 :: a7 :: a8 :: a9 :: a10 :: a11 :: a12 :: a13 :: a14 :: a15 :: a16 :: a17 :: a18 :: x :: l := (rfl)
@[simp 3000] theorem gt20 : (a0 :: a1 :: a2 :: a3 :: a4 :: a5 :: a6 :: a7 :: a8 :: a9 :: a10 :: a11 :: a12 :: a13 :: a14 :: a15 :: a16 :: a17 :: a18 :: a19 :: a20 :: l)[20]? = some a20 := (rfl)
@[simp 3000] theorem sg20 {x : α} : (a0 :: a1 :: a2 :: a3 :: a4 :: a5 :: a6 :: a7 :: a8 :: a9 :: a10 :: a11 :: a12 :: a13 :: a14 :: a15 :: a16 :: a17 :: a18 :: a19 :: a20 :: l).set 20 x = a0 :: a1 :: a2 :: a3 :: a4 :: a5 :: a6 :: a7 :: a8 :: a9 :: a10 :: a11 :: a12 :: a13 :: a14 :: a15 :: a16 :: a17 :: a18 :: a19 :: x :: l := (rfl)
@[simp 3000] theorem gt21 : (a0 :: a1 :: a2 :: a3 :: a4 :: a5 :: a6 :: a7 :: a8 :: a9 :: a10 :: a11 :: a12 :: a13 :: a14 :: a15 :: a16 :: a17 :: a18 :: a19 :: a20 :: a21 :: l)[21]? = some a21 := (rfl)
@[simp 3000] theorem sg21 {x : α} : (a0 :: a1 :: a2 :: a3 :: a4 :: a5 :: a6 :: a7 :: a8 :: a9 :: a10 :: a11 :: a12 :: a13 :: a14 :: a15 :: a16 :: a17 :: a18 :: a19 :: a20 :: a21 :: l).set 21 x = a0 :: a1 :: a2 :: a3 :: a4 :: a5 :: a6 :: a7 :: a8 :: a9 :: a10 :: a11 :: a12 :: a13 :: a14 :: a15 :: a16 :: a17 :: a18 :: a19 :: a20 :: x :: l := (rfl)
@[simp 3000] theorem gt22 : (a0 :: a1 :: a2 :: a3 :: a4 :: a5 :: a6 :: a7 :: a8 :: a9 :: a10 :: a11 :: a12 :: a13 :: a14 :: a15 :: a16 :: a17 :: a18 :: a19 :: a20 :: a21 :: a22 :: l)[22]? = some a22 := (rfl)
@[simp 3000] theorem sg22 {x : α} : (a0 :: a1 :: a2 :: a3 :: a4 :: a5 :: a6 :: a7 :: a8 :: a9 :: a10 :: a11 :: a12 :: a13 :: a14 :: a15 :: a16 :: a17 :: a18 :: a19 :: a20 :: a21 :: a22 :: l).set 22 x = a0 :: a1 :: a2 :: a3 :: a4 :: a5 :: a6 :: a7 :: a8 :: a9 :: a10 :: a11 :: a12 :: a13 :: a14 :: a15 :: a16 :: a17 :: a18 :: a19 :: a20 :: a21 :: x :: l := (rfl)
@[simp 3000] theorem gt23 : (a0 :: a1 :: a2 :: a3 :: a4 :: a5 :: a6 :: a7 :: a8 :: a9 :: a10 :: a11 :: a12 :: a13 :: a14 :: a15 :: a16 :: a17 :: a18 :: a19 :: a20 :: a21 :: a22 :: a23 :: l)[23]? = some a23 := (rfl)
@[simp 3000] theorem sg23 {x : α} : (a0 :: a1 :: a2 :: a3 :: a4 :: a5 :: a6 :: a7 :: a8 :: a9 :: a10 :: a11 :: a12 :: a13 :: a14 :: a15 :: a16 :: a17 :: a18 :: a19 :: a20 :: a21 :: a22 :: a23 :: l).set 23 x = a0 :: a1 :: a2 :: a3 :: a4 :: a5 :: a6 :: a7 :: a8 :: a9 :: a10 :: a11 :: a12 :: a13 :: a14 :: a15 :: a16 :: a17 :: a18 :: a19 :: a20 :: a21 :: a22 :: x :: l := (rfl)
end
section
variable {α β : Type} {s0 : Sl} {env e : Evn} {d x y : D} {i j : Nat}
@[simp] theorem ev_aNil : aNil (s0 :: env) = .ok [] (s0 :: env) := (rfl)
@[simp] theorem ev_aCons {f : FE} {g : FA} : aCons f g (s0 :: env) = (f (s0 :: env)).bind fun d e => (g e).map (d :: ·) := (rfl)
@[simp] theorem ev_aConsN {f : FE} {g : FA} : aConsN j f g (s0 :: env) = (f (s0 :: env)).bind fun d e => match e[j]? with
  | some (.bor none _) => (g e).map (d :: ·)
  | _ => .stuck := (rfl)
@[simp] theorem ev_aApp {f g : FA} : aApp f g (s0 :: env) = (f (s0 :: env)).bind fun ds e => (g e).map (ds ++ ·) := (rfl)
@[simp] theorem ev_fC : fC d (s0 :: env) = .ok d (s0 :: env) := (rfl)
@[simp] theorem ev_fVar : fVar i (s0 :: env) = optR (getS (s0 :: env) i) (s0 :: env) := (rfl)
@[simp] theorem ev_fChk {f : FE} : fChk f (s0 :: env) = (f (s0 :: env)).bind fun d e => if d.frz = true then .ok d e else .stuck := (rfl)
@[simp] theorem ev_fMv : fMv i (s0 :: env) = match (s0 :: env)[i]? with
  | some (.own d) => .ok d (putE i .dead (s0 :: env))
  | some (.bor _ d) => if d.frz = true then .ok d (s0 :: env) else .stuck
  | _ => .stuck := (rfl)
@[simp] theorem ev_fFz : fFz i (s0 :: env) = match (s0 :: env)[i]? with
  | some (.own d) => .ok d.fz (putE i (.own d.fz) (putE i .dead (s0 :: env)))
  | some (.bor _ d) => if d.frz = true then .ok d (s0 :: env) else .stuck
  | _ => .stuck := (rfl)
@[simp] theorem ev_fOp {g : List D → Option D} {fa : FA} : fOp g fa (s0 :: env) = (fa (s0 :: env)).bind fun ds e => optR (g ds) e := (rfl)
@[simp] theorem ev_getS : getS (s0 :: env) i = match (s0 :: env)[i]? with
  | some (.own d) => some d
  | some (.bor _ d) => some d
  | _ => none := (rfl)
@[simp] theorem ev_fSeq {f g : FS} : fSeq f g (s0 :: env) = match f (s0 :: env) with
  | .nxt e => g e
  | o => o := (rfl)
@[simp] theorem ev_fNext : fNext (s0 :: env) = .nxt (s0 :: env) := (rfl)
@[simp] theorem ev_fBrk : fBrk (s0 :: env) = .brk (s0 :: env) := (rfl)
@[simp] theorem ev_fCnt : fCnt (s0 :: env) = .cnt (s0 :: env) := (rfl)
@[simp] theorem ev_fExpr {f : FE} : fExpr f (s0 :: env) = (f (s0 :: env)).so fun _ e => .nxt e := (rfl)
@[simp] theorem ev_fRet {f : FE} : fRet f (s0 :: env) = (f (s0 :: env)).so fun d e => .ret d e := (rfl)
@[simp] theorem ev_fIfS {t : FT} {f g : FS} : fIfS t f g (s0 :: env) = (t (s0 :: env)).so fun b e => if b = true then f e else g e := (rfl)
@[simp] theorem ev_fB {f : FE} : fB f (s0 :: env) = (f (s0 :: env)).bind fun d e => match d with
  | .bl b => .ok b e
  | _ => .stuck := (rfl)
@[simp] theorem ev_fAnd {f g : FT} : fAnd f g (s0 :: env) = (f (s0 :: env)).bind fun b e => if b = true then g e else .ok false e := (rfl)
@[simp] theorem ev_fOr {f g : FT} : fOr f g (s0 :: env) = (f (s0 :: env)).bind fun b e => if b = true then .ok true e else g e := (rfl)
@[simp] theorem ev_fNot {f : FT} : fNot f (s0 :: env) = (f (s0 :: env)).map (!·) := (rfl)
@[simp] theorem ev_fAndV {f g : FE} : fAndV f g (s0 :: env) = (f (s0 :: env)).bind fun d e => match d with
  | .bl true => g e
  | .bl false => .ok (.bl false) e
  | _ => .stuck := (rfl)
@[simp] theorem ev_fOrV {f g : FE} : fOrV f g (s0 :: env) = (f (s0 :: env)).bind fun d e => match d with
  | .bl true => .ok (.bl true) e
  | .bl false => g e
  | _ => .stuck := (rfl)
@[simp] theorem ev_fNotV {f : FE} : fNotV f (s0 :: env) = (f (s0 :: env)).bind fun d e => match d with
  | .bl b => .ok (.bl (!b)) e
  | _ => .stuck := (rfl)
@[simp] theorem ev_fIf {t : FT} {f g : FE} : fIf t f g (s0 :: env) = (t (s0 :: env)).bind fun b e => if b = true then f e else g e := (rfl)
@[simp] theorem ev_fChain {g g' : List D → Option D} {fa fb fc : FE} : fChain g g' fa fb fc (s0 :: env) = (aCons fa (aCons fb aNil) (s0 :: env)).bind fun ds e => match ds with
  | [x, y] => (match g [x, y] with
    | some (.bl true) => (fc e).bind fun z e2 => optR (g' [y, z]) e2
    | some (.bl false) => .ok (.bl false) e
    | _ => .stuck)
  | _ => .stuck := (rfl)
@[simp] theorem ev_fPart {f : FE} : fPart f (s0 :: env) = (f (s0 :: env)).bind fun d e => match d with
  | .int i => .ok (some i) e
  | _ => .stuck := (rfl)
@[simp] theorem ev_fSl {fa : FE} {lo hi : Evn → Rs (Option Int)} : fSl fa lo hi (s0 :: env) = (fa (s0 :: env)).bind fun d e1 => (lo e1).bind fun l e2 => (hi e2).bind fun u e3 => optR (oSl d l u) e3 := (rfl)
@[simp] theorem ev_fAsg {k : Kd} {fe : FE} {g : Md → D → Evn → Option Evn} : fAsg k fe g (s0 :: env) = (fe (s0 :: env)).so fun d e => optS ((mdOf k e).bind fun md => g md d e) := (rfl)
@[simp] theorem ev_mdO : mdOf .own (s0 :: env) = some .own := (rfl)
@[simp] theorem ev_mdF : mdOf .frz (s0 :: env) = some .own := (rfl)
@[simp] theorem ev_mdB : mdOf (.bor j) (s0 :: env) = match (s0 :: env)[j]? with
    | some (.own _) => some (.bor (some j))
    | some (.bor r _) => some (.bor r)
    | _ => none := (rfl)
@[simp] theorem ev_gNmO : gNm i .own d (s0 :: env) = if i < (s0 :: env).length then some (putE i (.own d) (s0 :: env)) else none := (rfl)
@[simp] theorem ev_gNmB {r : Option Nat} : gNm i (.bor r) d (s0 :: env) = if i < (s0 :: env).length then (if r = some i then none else some (putE i (if d.frz = true then .own d else .bor r d) (s0 :: env))) else none := (rfl)
@[simp] theorem ev_fCall {Fx : List D → Fo} {kinds : List Bool} {ar : List Ar} {cs : List CK} {fa : FA} : fCall Fx kinds ar cs fa (s0 :: env) = (fa (s0 :: env)).bind fun ds e =>
  if ((jsOf cs kinds ar).isEmpty || rootsOk cs (jsOf cs kinds ar) e) = true then (match fixA cs ds e kinds ar with
    | some as => foRs (jsOf cs kinds ar) e (Fx as)
    | none => .stuck) else .stuck := (rfl)
@[simp] theorem ev_fSlot : fSlot j (s0 :: env) = match (s0 :: env)[j]? with
  | some (.own _) => .ok .non (s0 :: env)
  | _ => .stuck := (rfl)
@[simp] theorem ev_fRcv {cl m : Str} {f : FE} {g : FA} : fRcv cl m f g (s0 :: env) = (f (s0 :: env)).bind fun d e => if isIns cl m d = true then (g e).map (d :: ·) else .stuck := (rfl)
@[simp] theorem ev_fRcvS {cl m : Str} {g : FA} : fRcvS cl m j g (s0 :: env) = match (s0 :: env)[j]? with
  | some (.own d) => if isIns cl m d = true then (g (s0 :: env)).map (.non :: ·) else .stuck
  | _ => .stuck := (rfl)
@[simp] theorem ev_fMk {cl : Str} {Fx : List D → Fo} {kinds : List Bool} {ar : List Ar} {cs : List CK} {fa : FA} : fMk cl Fx kinds ar cs fa (s0 :: env) = (fa (s0 :: env)).bind fun ds e =>
  if ((jsOf cs kinds ar).isEmpty || rootsOk cs (jsOf cs kinds ar) e) = true then (match fixA cs ds e kinds ar with
    | some as => (match Fx (.node true (.ins cl []) [] :: as) with
      | .ret .non (m :: ms) => .ok m (backM (jsOf cs kinds ar) ms e)
      | .exc c x (_ :: ms) => .exc c x (backM (jsOf cs kinds ar) ms e)
      | _ => .stuck)
    | none => .stuck) else .stuck := (rfl)
@[simp] theorem ev_gPlO {p : FP} {op : D → List D → Option (D × D)} {ks : FA} : gPl i p op ks .own d (s0 :: env) = match p (s0 :: env), ks (s0 :: env) with
    | some (sub, g), .ok as _ => (op sub (d :: as)).map fun x => putE i (.own (g x.2)) (s0 :: env)
    | _, _ => none := (rfl)
@[simp] theorem ev_pVar : pVar i (s0 :: env) = match (s0 :: env)[i]? with
  | some (.own d) => some (d, id)
  | _ => none := rfl
@[simp] theorem ev_fForI {fI : Evn → Rs (Md × List D × Bool)} {gD : Md → D → Evn → Option Evn} {fb : FS} : fForI fI gD fb (s0 :: env) = (fI (s0 :: env)).so fun y e1 => ((loopD (gChk y.1 gD) fb y.2.1 (lockR y.1 e1)).nex y.2.2).unl (unlR y.1 e1) := (rfl)
def forH (g : Md → D → Evn → Option Evn) (fb : FS) (e : Evn) : Option (List D) → So
  | some xs => loopD (gChk .own g) fb xs e
  | none => .stuck
@[simp] theorem forH_some {g : Md → D → Evn → Option Evn} {fb : FS} {xs : List D} : forH g fb e (some xs) = loopD (gChk .own g) fb xs e := (rfl)
@[simp] theorem ev_fForR {rg : List D → Option (List D)} {fa : FA} {gD : Md → D → Evn → Option Evn} {fb : FS} : fForR rg fa gD fb (s0 :: env) = (fa (s0 :: env)).so fun ds e1 => forH gD fb e1 (rg ds) := by
  unfold fForR
  congr 1
@[simp] theorem ev_fForO {fi : FE} {gD : Md → D → Evn → Option Evn} {fb : FS} : fForO fi gD fb (s0 :: env) = (fi (s0 :: env)).so fun d e1 => match seqD d with
  | some xs => loopD (gChk .own gD) fb xs e1
  | none => .stuck := (rfl)
@[simp] theorem ev_iAny {k : Kd} {fi : FE} : iAnyD k fi (s0 :: env) = (fi (s0 :: env)).bind fun d e1 => match walkD k d e1 with
  | some (md, d') => (match itemsD d' with
    | some (xs, b) => .ok (md, xs, b) e1
    | none => .stuck)
  | none => .stuck := (rfl)
def rngH (e : Evn) : Option (List D) → Rs (Md × List D × Bool)
  | some xs => .ok (.own, xs, false) e
  | none => .stuck
@[simp] theorem rngH_some {xs : List D} : rngH e (some xs) = .ok (.own, xs, false) e := (rfl)
@[simp] theorem ev_iRng {rg : List D → Option (List D)} {fa : FA} : iRngD rg fa (s0 :: env) = (fa (s0 :: env)).bind fun ds e1 => rngH e1 (rg ds) := by
  unfold iRngD
  congr 1
@[simp] theorem ev_fLc {n : Nat} {vs : List Nat} {fI : Evn → Rs (Md × List D × Bool)} {gD : Md → D → Evn → Option Evn} {ft : FT} {fe : FE} : fLc n vs fI gD ft fe (s0 :: env) = (fI (s0 :: env)).bind fun y e1 =>
  if e1.length = n ∧ (vs.all fun j => decide (j < n)) = true ∧ rootB y.1 (deadM vs (lockR y.1 e1)) = true then (match compD (gChk y.1 gD) ft fe (deadM vs (lockR y.1 e1)) y.2.1 with
    | some ds => if ds.length ≤ sizeLine then .ok (.node true .lst ds) e1 else .stuck
    | none => .stuck) else .stuck := (rfl)
@[simp] theorem ev_fYes : fYes (s0 :: env) = .ok true (s0 :: env) := (rfl)
@[simp] theorem ev_fMut {p : FP} {T : String} {fa : FA} {op : D → List D → Option (D × D)} : fMut i p T fa op (s0 :: env) = match p (s0 :: env) with
  | some (sub, g) => if tyD sub = some T then endMut i sub g op (fa (lockE i (s0 :: env))) else .stuck
  | none => .stuck := (rfl)
@[simp] theorem ev_endMut {sub : D} {g : D → D} {op : D → List D → Option (D × D)} {ds : List D} : endMut i sub g op (.ok ds e) = match lkD e i, op sub ds with
    | some _, some (r, sub') => .ok r (putE i (.own (g sub')) e)
    | _, _ => .stuck := (rfl)
@[simp] theorem ev_fPar {fa : FA} {g : Md → List D → Evn → Option Evn} : fPar fa g (s0 :: env) = (fa (s0 :: env)).so fun ds e => optS (g .own ds e) := (rfl)
@[simp] theorem ev_fDic {xs : List Str} {fa : FA} : fDic xs fa (s0 :: env) = (fa (s0 :: env)).bind fun ds e => .ok (.node true (.dic (xs.map .inr)) ds) e := (rfl)
def istr (i : Int) : Str := (toString i : String)
@[simp] theorem ev_fJs0 {acc : Str} : fJs [] acc (s0 :: env) = .ok (.str acc) (s0 :: env) := (rfl)
@[simp] theorem ev_fJs1 {f : FE} {fs : List FE} {acc : Str} : fJs (f :: fs) acc (s0 :: env) = (f (s0 :: env)).bind fun d e => match d with
    | .str y => if (acc ++ y).length ≤ sizeLine then fJs fs (acc ++ y) e else .stuck
    | _ => .stuck := (rfl)
@[simp] theorem ev_fFmt {f : FE} : fFmt f (s0 :: env) = (f (s0 :: env)).bind fun d e => match d with
  | .str y => if y.length ≤ sizeLine then .ok (.str y) e else .stuck
  | .int i => if i.natAbs.log2 < 1920 then .ok (.str (istr i)) e else .stuck
  | _ => .stuck := (rfl)
@[simp] theorem ev_gsNil {md : Md} {ds : List D} : gsNil md ds (s0 :: env) = match ds with
  | [] => some (s0 :: env)
  | _ => none := (rfl)
@[simp] theorem ev_gsCons {g : Md → D → Evn → Option Evn} {gs : Md → List D → Evn → Option Evn} {md : Md} {ds : List D} : gsCons g gs md (d :: ds) (s0 :: env) = (g md d (s0 :: env)).bind (gs md ds) := (rfl)
@[simp] theorem ev_gTu {gs : Md → List D → Evn → Option Evn} {md : Md} {o : Bool} {xs : List D} : gTu gs md (.node o .tup xs) (s0 :: env) = gs md xs (s0 :: env) := (rfl)
@[simp] theorem ev_gChk {md : Md} {g : Md → D → Evn → Option Evn} : gChk md g d (s0 :: env) = if rootB md (s0 :: env) = true then g md d (s0 :: env) else none := (rfl)
def pIxH : D × (D → D) → Rs D → Option (D × (D → D)) := fun x r => match x, r with
  | (.node true s xs, g), .ok k _ => subAt (atIx s xs.length k) (.node true s xs, g)
  | _, _ => none
@[simp] theorem ev_pIx {p : FP} {fi : FE} : pIx p fi (s0 :: env) = (p (s0 :: env)).bind fun x => pIxH x (fi (s0 :: env)) := (rfl)
@[simp] theorem unl_nxt {u : Evn → Option Evn} : So.unl u (.nxt e) = optSo (u e) .nxt := (rfl)
@[simp] theorem unl_ret {u : Evn → Option Evn} : So.unl u (.ret d e) = optSo (u e) (.ret d) := (rfl)
@[simp] theorem unl_exc {u : Evn → Option Evn} {c : Str} : So.unl u (.exc c d e) = optSo (u e) (.exc c d) := (rfl)
@[simp] theorem nex_false {o : So} : So.nex false o = o := by cases o <;> rfl
@[simp] theorem nex_nxt {b : Bool} : So.nex b (.nxt e) = .nxt e := (rfl)
@[simp] theorem nex_ret {b : Bool} : So.nex b (.ret d e) = .ret d e := (rfl)
@[simp] theorem foRs_ret {js : List Nat} {ms : List D} : foRs js e (.ret d ms) = .ok d (backM js ms e) := (rfl)
@[simp] theorem foRs_exc {js : List Nat} {ms : List D} {c : Str} : foRs js e (.exc c d ms) = .exc c d (backM js ms e) := (rfl)
@[simp] theorem ev_putE {s : Sl} : putE i s (s0 :: env) = (kill i (s0 :: env)).set i s := (rfl)
@[simp] theorem ev_kill0 : kill i [] = [] := (rfl)
@[simp] theorem ev_kill1 {s : Sl} : kill i (s :: env) = killS i s :: kill i env := (rfl)
@[simp] theorem ev_killD : killS i .dead = .dead := (rfl)
@[simp] theorem ev_killO : killS i (.own d) = .own d := (rfl)
@[simp] theorem ev_killN : killS i (.bor none d) = .bor none d := (rfl)
@[simp] theorem ev_killB : killS i (.bor (some j) d) = if j = i then .dead else .bor (some j) d := (rfl)
@[simp] theorem ev_initE {kinds : List Bool} {ds : List D} {n : Nat} : initE kinds ds n = (List.zipWith (fun (b : Bool) d => if b = true then Sl.own d else Sl.bor none d) kinds ds) ++ List.replicate (n - ds.length) .dead := (rfl)
@[simp] theorem ev_getMi0 : getMi [] i (s0 :: env) = some [] := (rfl)
@[simp] theorem ev_getMiF {ks : List Bool} : getMi (false :: ks) i (s0 :: env) = getMi ks (i + 1) (s0 :: env) := (rfl)
@[simp] theorem ev_getMiT {ks : List Bool} : getMi (true :: ks) i (s0 :: env) = match (s0 :: env)[i]? with
    | some (.own d) => (getMi ks (i + 1) (s0 :: env)).map (d :: ·)
    | _ => none := (rfl)
@[simp] theorem ev_endN {kinds : List Bool} : endF kinds (.nxt e) = optF (getMi kinds 0 e) (.ret .non) := (rfl)
@[simp] theorem ev_endR {kinds : List Bool} : endF kinds (.ret d e) = optF (getMi kinds 0 e) (.ret d) := (rfl)
@[simp] theorem ev_endX {kinds : List Bool} {c : Str} : endF kinds (.exc c d e) = optF (getMi kinds 0 e) (.exc c d) := (rfl)
@[simp] theorem ev_endS {kinds : List Bool} : endF kinds .stuck = .stuck := (rfl)
@[simp] theorem ev_frN {o : Bool} {s : Sh} {xs : List D} : (D.node o s xs).frz = (!o && frzL xs) := (rfl)
@[simp] theorem ev_frI {z : Int} : (D.int z).frz = true := (rfl)
@[simp] theorem ev_frS {z : Str} : (D.str z).frz = true := (rfl)
@[simp] theorem ev_frB {z : Bool} : (D.bl z).frz = true := (rfl)
@[simp] theorem ev_frNo : D.non.frz = true := (rfl)
@[simp] theorem ev_frL0 : frzL [] = true := (rfl)
@[simp] theorem ev_frL1 {xs : List D} : frzL (d :: xs) = (d.frz && frzL xs) := (rfl)
@[simp] theorem ev_js0 {cs : List CK} {ar : List Ar} : jsOf cs [] ar = [] := by cases ar <;> rfl
@[simp] theorem ev_js00 {cs : List CK} {ks : List Bool} : jsOf cs ks [] = [] := by rcases ks with _ | ⟨b, ks⟩ <;> first | rfl | (cases b <;> rfl)
@[simp] theorem ev_jsT {cs : List CK} {ks : List Bool} {ar : List Ar} : jsOf cs (true :: ks) (.arg i :: ar) = match cs[i]? with
    | some (.slot j) => j :: jsOf cs ks ar
    | _ => jsOf cs ks ar := (rfl)
@[simp] theorem ev_jsF {cs : List CK} {ks : List Bool} {ar : List Ar} {a : Ar} : jsOf cs (false :: ks) (a :: ar) = jsOf cs ks ar := (rfl)
@[simp] theorem ev_jsTd {cs : List CK} {ks : List Bool} {ar : List Ar} : jsOf cs (true :: ks) (.dfl d :: ar) = jsOf cs ks ar := (rfl)
@[simp] theorem ev_fx0 {cs : List CK} {ds : List D} : fixA cs ds (s0 :: env) [] [] = some [] := (rfl)
@[simp] theorem ev_fxT {cs : List CK} {ds : List D} {ks : List Bool} {ar : List Ar} : fixA cs ds (s0 :: env) (true :: ks) (.arg i :: ar) = match cs[i]? with
    | some (.slot j) => match (s0 :: env)[j]? with
      | some (.own d) => (fixA cs ds (s0 :: env) ks ar).map (d :: ·)
      | _ => none
    | _ => none := (rfl)
@[simp] theorem ev_fxF {cs : List CK} {ds : List D} {ks : List Bool} {ar : List Ar} : fixA cs ds (s0 :: env) (false :: ks) (.arg i :: ar) = match cs[i]? with
    | some (.val _) => match ds[i]? with
      | some d => (fixA cs ds (s0 :: env) ks ar).map (d :: ·)
      | none => none
    | _ => none := (rfl)
@[simp] theorem ev_fxD {cs : List CK} {ds : List D} {ks : List Bool} {ar : List Ar} : fixA cs ds (s0 :: env) (false :: ks) (.dfl d :: ar) = if (plainV d).isSome = true then (fixA cs ds (s0 :: env) ks ar).map (d :: ·) else none := (rfl)
@[simp] theorem ev_plI {z : Int} : plainV (.int z) = some (.int z) := (rfl)
@[simp] theorem ev_plN : plainV .non = some .non := (rfl)
@[simp] theorem ev_plB {z : Bool} : plainV (.bl z) = some (.bl z) := (rfl)
@[simp] theorem ev_plS {z : Str} : plainV (.str z) = some (.str z) := (rfl)
@[simp] theorem ev_roots {cs : List CK} {js : List Nat} : rootsOk cs js (s0 :: env) = cs.all fun c => match c with
  | .val (.bor r) => rootOk (s0 :: env) js r
  | _ => true := (rfl)
@[simp] theorem ev_root {js : List Nat} : rootOk (s0 :: env) js i = match (s0 :: env)[i]? with
  | some (.own _) => !js.contains i
  | some (.bor none _) => true
  | some (.bor (some m) _) => !js.contains m
  | _ => false := (rfl)
@[simp] theorem ev_back {js : List Nat} {ms : List D} : backM js ms (s0 :: env) = putM js ms (deadM js (s0 :: env)) := (rfl)
@[simp] theorem ev_deadM0 : deadM [] (s0 :: env) = (s0 :: env) := (rfl)
@[simp] theorem ev_deadM1 {js : List Nat} : deadM (j :: js) (s0 :: env) = deadM js (putE j .dead (s0 :: env)) := (rfl)
@[simp] theorem ev_putM0 {ms : List D} : putM [] ms (s0 :: env) = (s0 :: env) := by cases ms <;> rfl
@[simp] theorem ev_putM1 {js : List Nat} {ms : List D} : putM (j :: js) (d :: ms) (s0 :: env) = putM js ms (putE j (.own d) (s0 :: env)) := (rfl)
@[simp] theorem ev_lockE : lockE i (s0 :: env) = match (s0 :: env)[i]? with
  | some (.own d) => (s0 :: env).set i (.bor (some i) d)
  | _ => (s0 :: env) := (rfl)
@[simp] theorem ev_unlkE : unlkE i (s0 :: env) = match (s0 :: env)[i]? with
  | some (.bor _ d) => (s0 :: env).set i (.own d)
  | _ => (s0 :: env) := (rfl)
@[simp] theorem ev_lkD : lkD (s0 :: env) i = match (s0 :: env)[i]? with
  | some (.bor (some m) d) => if m = i then some d else none
  | _ => none := (rfl)
@[simp] theorem ev_lkD' : lkD' (s0 :: env) i = (lkD (s0 :: env) i).isSome := (rfl)
@[simp] theorem ev_lockO : lockR .own (s0 :: env) = (s0 :: env) := (rfl)
@[simp] theorem ev_lockN : lockR (.bor none) (s0 :: env) = (s0 :: env) := (rfl)
@[simp] theorem ev_lockB : lockR (.bor (some j)) (s0 :: env) = lockE j (s0 :: env) := (rfl)
@[simp] theorem ev_unlO : unlR .own e (s0 :: env) = some (s0 :: env) := (rfl)
@[simp] theorem ev_unlN : unlR (.bor none) e (s0 :: env) = some (s0 :: env) := (rfl)
@[simp] theorem ev_unlB : unlR (.bor (some j)) e (s0 :: env) = match e[j]? with
    | some (.own _) => (lkD (s0 :: env) j).map fun d => (s0 :: env).set j (.own d)
    | _ => some (s0 :: env) := (rfl)
@[simp] theorem ev_rootBO : rootB .own (s0 :: env) = true := (rfl)
@[simp] theorem ev_rootBN : rootB (.bor none) (s0 :: env) = true := (rfl)
@[simp] theorem ev_rootBB : rootB (.bor (some j)) (s0 :: env) = lkD' (s0 :: env) j := (rfl)
@[simp] theorem ev_walkO : walkD .own d (s0 :: env) = some (.own, d.fz) := (rfl)
@[simp] theorem ev_walkF : walkD .frz d (s0 :: env) = some (.own, d) := (rfl)
@[simp] theorem ev_walkB : walkD (.bor j) d (s0 :: env) = if d.frz = true then some (.own, d) else (mdOf (.bor j) (s0 :: env)).map fun md => (md, d) := (rfl)
@[simp] theorem ev_itL {o : Bool} {xs : List D} : itemsD (.node o .lst xs) = some (xs, false) := (rfl)
@[simp] theorem ev_itT {o : Bool} {xs : List D} : itemsD (.node o .tup xs) = some (xs, false) := (rfl)
@[simp] theorem ev_itD {o : Bool} {xs : List D} {ks : List Key} : itemsD (.node o (.dic ks) xs) = some (ks.map keyV, true) := (rfl)
@[simp] theorem ev_itS {z : Str} : itemsD (.str z) = some (z.cps.toList.map fun c => .str ⟨#[c]⟩, false) := (rfl)
@[simp] theorem ev_fz {o : Bool} {s : Sh} {xs : List D} : (D.node o s xs).fz = .node false s (fzL xs) := (rfl)
@[simp] theorem ev_fzI {z : Int} : (D.int z).fz = .int z := (rfl)
@[simp] theorem ev_fzS {z : Str} : (D.str z).fz = .str z := (rfl)
@[simp] theorem ev_fzB {z : Bool} : (D.bl z).fz = .bl z := (rfl)
@[simp] theorem ev_fzN : D.non.fz = .non := (rfl)
@[simp] theorem ev_fzL0 : fzL [] = [] := (rfl)
@[simp] theorem ev_fzL1 {xs : List D} : fzL (d :: xs) = d.fz :: fzL xs := (rfl)
@[simp] theorem ev_tyL {xs : List D} : tyD (.node true .lst xs) = some "list" := (rfl)
@[simp] theorem ev_tyDi {xs : List D} {ks : List Key} : tyD (.node true (.dic ks) xs) = some "dict" := (rfl)
@[simp] theorem ev_seqL {o : Bool} {xs : List D} : seqD (.node o .lst xs) = some xs := (rfl)
@[simp] theorem ev_seqT {o : Bool} {xs : List D} : seqD (.node o .tup xs) = some xs := (rfl)
@[simp] theorem ev_rng1 {z : Int} (h0 : 0 ≤ z) (h1 : z < 1000000) : rng1D [.int z] = some (rangeD 0 z.toNat) := by
  show (if -(2 ^ 62) ≤ z ∧ z < 2 ^ 62 then some (rangeD 0 z.toNat) else none) = _
  rw [if_pos (by omega)]
@[simp] theorem ev_rng2 {y z : Int} (h0 : 0 ≤ y) (h1 : z < 1000000) (h2 : y < 1000000) (h3 : -1000000 < z) : rng2D [.int y, .int z] = some (rangeD y (z - y).toNat) := by
  show (if -(2 ^ 62) ≤ y ∧ y < 2 ^ 62 ∧ -(2 ^ 62) ≤ z ∧ z < 2 ^ 62 then some (rangeD y (z - y).toNat) else none) = _
  rw [if_pos (by omega)]
variable {a b : Int} {o o' : Bool} {xs ys : List D} {s t : Str}
@[simp] theorem oAdd_ii : oAdd [.int a, .int b] = some (.int (a + b)) := (rfl)
@[simp] theorem oSub_ii : oSub [.int a, .int b] = some (.int (a - b)) := (rfl)
@[simp] theorem oMul_c : oMul [.int a, .int b] = if (-(2 ^ 64) < a ∧ a < 2 ^ 64) ∨ (-(2 ^ 64) < b ∧ b < 2 ^ 64) then some (.int (a * b)) else none := (rfl)
@[simp] theorem oFdiv_c : oFdiv [.int a, .int b] = if 0 < b ∧ (b < 1073741824 ∨ b.natAbs.log2 < 9000) then some (.int (a / b)) else none := (rfl)
@[simp] theorem oMod_c : oMod [.int a, .int b] = if 0 < b then some (.int (a % b)) else none := (rfl)
@[simp] theorem oPow_c : oPow [.int a, .int b] = if 0 ≤ b ∧ b ≤ 1000000 ∧ a.natAbs < 2 ^ 64 then some (.int (a ^ b.toNat)) else none := (rfl)
@[simp] theorem oLt_ii : oLt [.int a, .int b] = some (.bl (decide (a < b))) := (rfl)
@[simp] theorem oLe_ii : oLe [.int a, .int b] = some (.bl (decide (a ≤ b))) := (rfl)
@[simp] theorem oGt_ii : oGt [.int a, .int b] = some (.bl (decide (b < a))) := (rfl)
@[simp] theorem oGe_ii : oGe [.int a, .int b] = some (.bl (decide (b ≤ a))) := (rfl)
@[simp] theorem oNeg_i : oNeg [.int a] = some (.int (-a)) := (rfl)
@[simp] theorem oStr_i : o1 gStr [.int a] = if a.natAbs.log2 < 1920 then some (.str (istr a)) else none := (rfl)
@[simp] theorem oStr_s : o1 gStr [.str s] = some (.str s) := (rfl)
def absI (i : Int) : Int := if i < 0 then -i else i
@[simp] theorem oAbs_i : o1 gAbs [.int a] = some (.int (absI a)) := (rfl)
@[simp] theorem oAdd_ll : oAdd [.node o .lst xs, .node o' .lst ys] = if frzL xs = true ∧ frzL ys = true ∧ xs.length + ys.length ≤ sizeLine then some (.node true .lst (xs ++ ys)) else none := (rfl)
@[simp] theorem oAdd_ss : oAdd [.str s, .str t] = if s.length + t.length ≤ sizeLine then some (.str (s ++ t)) else none := (rfl)
@[simp] theorem oLen_l : oLen [.node o .lst xs] = some (.int xs.length) := (rfl)
@[simp] theorem oLen_t : oLen [.node o .tup xs] = some (.int xs.length) := (rfl)
@[simp] theorem oLen_d {ks : List Key} : oLen [.node o (.dic ks) xs] = some (.int xs.length) := (rfl)
@[simp] theorem oItm_l : oItm [.node o .lst xs, .int a] = atI xs a := (rfl)
@[simp] theorem oItm_t : oItm [.node o .tup xs, .int a] = atI xs a := (rfl)
@[simp] theorem oIsN_c : oIsN [x, .non] = some (.bl (isNonD x)) := (rfl)
@[simp] theorem oNotN_c : oNotN [x, .non] = some (.bl (!isNonD x)) := (rfl)
@[simp] theorem oList_l : oList [.node o .lst xs] = if frzL xs = true then some (.node true .lst xs) else none := (rfl)
@[simp] theorem oList_t : oList [.node o .tup xs] = if frzL xs = true then some (.node true .lst xs) else none := (rfl)
@[simp] theorem oAll_l : oAll [.node o .lst xs] = (blsD xs).map fun bs => .bl (bs.all id) := (rfl)
@[simp] theorem oAny_l : oAny [.node o .lst xs] = (blsD xs).map fun bs => .bl (bs.any id) := (rfl)
@[simp] theorem oIsi_c {tab : List (TyK × Bool)} : oIsi tab [x] = ((tyKD x).bind (look2 tab)).map .bl := (rfl)
theorem atI_pos {α : Type} {xs : List α} {i : Int} (h : 0 ≤ i) : atI xs i = xs[i.toNat]? := by
  unfold atI ixN
  rw [if_pos h]
  by_cases h1 : i < xs.length
  · rw [if_pos h1]; rfl
  · rw [if_neg h1]; exact (List.getElem?_eq_none (by omega)).symm
@[simp] theorem atI_cons {α : Type} {x : α} {xs : List α} {i : Int} (h : 0 ≤ i) : atI (x :: xs) i = (x :: xs)[i.toNat]? := atI_pos h
@[simp] theorem isNon_int : isNonD (.int a) = false := (rfl)
@[simp] theorem isNon_str : isNonD (.str s) = false := (rfl)
@[simp] theorem isNon_non : isNonD .non = true := (rfl)
@[simp] theorem isNon_node {sh : Sh} : isNonD (.node o sh xs) = false := (rfl)
@[simp] theorem isNon_bl {z : Bool} : isNonD (.bl z) = false := (rfl)
theorem frzL_append : frzL (xs ++ ys) = (frzL xs && frzL ys) := by rw [frzL_all, frzL_all, frzL_all, List.all_append]
theorem frzL_of (h : ∀ d ∈ xs, d.frz = true) : frzL xs = true := by rw [frzL_all, List.all_eq_true]; exact h
@[simp] theorem frzL_map_str {l : List Str} : frzL (l.map .str) = true := frzL_of fun d h => by obtain ⟨z, _, rfl⟩ := List.mem_map.mp h; rfl
@[simp] theorem frzL_map_int {l : List Int} : frzL (l.map .int) = true := frzL_of fun d h => by obtain ⟨z, _, rfl⟩ := List.mem_map.mp h; rfl
end
theorem blsD_map {α : Type} {f : α → Bool} : ∀ {l : List α}, blsD (l.map fun c => D.bl (f c)) = some (l.map f)
  | [] => rfl
  | a :: l => by rw [List.map_cons]; unfold blsD; rw [blsD_map]; rfl
@[simp] theorem sizeLine_v : sizeLine = 16777216 := sizeLine_eq
@[simp] theorem oEq_ss (x y : Str) : oEqF [.str x, .str y] = some (.bl (decide (x = y))) := by
  show some (D.bl (decide (V.str x = V.str y))) = _
  by_cases h : x = y <;> simp [h]
@[simp] theorem oNe_ss (x y : Str) : oNeF [.str x, .str y] = some (.bl (!decide (x = y))) := by
  show some (D.bl (!decide (V.str x = V.str y))) = _
  by_cases h : x = y <;> simp [h]
@[simp] theorem oEq_ii (x y : Int) : oEqF [.int x, .int y] = some (.bl (decide (x = y))) := by
  show some (D.bl (decide (V.int x = V.int y))) = _
  by_cases h : x = y <;> simp [h]
@[simp] theorem oNe_ii (x y : Int) : oNeF [.int x, .int y] = some (.bl (!decide (x = y))) := by
  show some (D.bl (!decide (V.int x = V.int y))) = _
  by_cases h : x = y <;> simp [h]
@[simp] theorem oEq_bb (x y : Bool) : oEqF [.bl x, .bl y] = some (.bl (decide (x = y))) := by
  show some (D.bl (decide (V.bl x = V.bl y))) = _
  by_cases h : x = y <;> simp [h]
@[simp] theorem oNe_bb (x y : Bool) : oNeF [.bl x, .bl y] = some (.bl (!decide (x = y))) := by
  show some (D.bl (!decide (V.bl x = V.bl y))) = _
  by_cases h : x = y <;> simp [h]
@[simp] theorem opAppend_l {xs : List D} {d : D} : opAppend (.node true .lst xs) [d] = if xs.length < sizeLine then some (.non, .node true .lst (xs ++ [d])) else none := (rfl)
@[simp] theorem opRev_l {xs : List D} : opRev (.node true .lst xs) [] = some (.non, .node true .lst xs.reverse) := (rfl)
theorem log2_le {i : Int} (h : i.natAbs < 2 ^ 64) : i.natAbs.log2 < 1920 := by
  by_cases z : i.natAbs = 0
  · rw [z]; decide
  · have q := (Nat.log2_lt z).mpr h
    omega
@[simp] theorem log2_ok {i : Int} (h : i.natAbs < 18446744073709551616) : (i.natAbs.log2 < 1920) = True := eq_true (log2_le h)
@[simp] theorem log2_okN {n : Nat} (h : n < 18446744073709551616) : (n.log2 < 1920) = True := by
  have q := log2_le (i := (n : Int)) (by omega)
  rw [Int.natAbs_natCast] at q
  exact eq_true q
@[simp] theorem str_len {s t : Str} : (s ++ t).length = s.length + t.length := by
  show (s.cps ++ t.cps).size = s.cps.size + t.cps.size
  exact Array.size_append ..
@[simp] theorem str_empty {s : Str} : Str.empty ++ s = s := by
  show (⟨#[] ++ s.cps⟩ : Str) = s
  rw [Array.empty_append]
theorem oLst_n {ds : List D} (h : ds.length ≤ 1000) : oLst ds = some (.node true .lst ds) := if_pos (by rw [sizeLine_eq]; omega)
theorem oTup_n {ds : List D} (h : ds.length ≤ 1000) : oTup ds = some (.node (!frzL ds) .tup ds) := if_pos (by rw [sizeLine_eq]; omega)
section
variable {a0 a1 a2 a3 a4 a5 a6 a7 a8 a9 a10 a11 a12 a13 a14 a15 : D}
@[simp] theorem oLst0 : oLst [] = some (.node true .lst []) := oLst_n (by show 0 ≤ 1000; decide)
@[simp] theorem oTup0 : oTup [] = some (.node (!frzL []) .tup []) := oTup_n (by show 0 ≤ 1000; decide)
@[simp] theorem oLst1 : oLst [a0] = some (.node true .lst [a0]) := oLst_n (by show 1 ≤ 1000; decide)
@[simp] theorem oTup1 : oTup [a0] = some (.node (!frzL [a0]) .tup [a0]) := oTup_n (by show 1 ≤ 1000; decide)
@[simp] theorem oLst2 : oLst [a0, a1] = some (.node true .lst [a0, a1]) := oLst_n (by show 2 ≤ 1000; decide)
@[simp] theorem oTup2 : oTup [a0, a1] = some (.node (!frzL [a0, a1]) .tup [a0, a1]) := oTup_n (by show 2 ≤ 1000; decide)
@[simp] theorem oLst3 : oLst [a0, a1, a2] = some (.node true .lst [a0, a1, a2]) := oLst_n (by show 3 ≤ 1000; decide)
@[simp] theorem oTup3 : oTup [a0, a1, a2] = some (.node (!frzL [a0, a1, a2]) .tup [a0, a1, a2]) := oTup_n (by show 3 ≤ 1000; decide)
@[simp] theorem oLst4 : oLst [a0, a1, a2, a3] = some (.node true .lst [a0, a1, a2, a3]) := oLst_n (by show 4 ≤ 1000; decide)
@[simp] theorem oTup4 : oTup [a0, a1, a2, a3] = some (.node (!frzL [a0, a1, a2, a3]) .tup [a0, a1, a2, a3]) := oTup_n (by show 4 ≤ 1000; decide)
@[simp] theorem oLst5 : oLst [a0, a1, a2, a3, a4] = some (.node true .lst [a0, a1, a2, a3, a4]) := oLst_n (by show 5 ≤ 1000; decide)
@[simp] theorem oTup5 : oTup [a0, a1, a2, a3, a4] = some (.node (!frzL [a0, a1, a2, a3, a4]) .tup [a0, a1, a2, a3, a4]) := oTup_n (by show 5 ≤ 1000; decide)
@[simp] theorem oLst6 : oLst [a0, a1, a2, a3, a4, a5] = some (.node true .lst [a0, a1, a2, a3, a4, a5]) := oLst_n (by show 6 ≤ 1000; decide)
@[simp] theorem oTup6 : oTup [a0, a1, a2, a3, a4, a5] = some (.node (!frzL [a0, a1, a2, a3, a4, a5]) .tup [a0, a1, a2, a3, a4, a5]) := oTup_n (by show 6 ≤ 1000; decide)
@[simp] theorem oLst7 : oLst [a0, a1, a2, a3, a4, a5, a6] = some (.node true .lst [a0, a1, a2, a3, a4, a5, a6]) := oLst_n (by show 7 ≤ 1000; decide)
@[simp] theorem oTup7 : oTup [a0, a1, a2, a3, a4, a5, a6] = some (.node (!frzL [a0, a1, a2, a3, a4, a5, a6]) .tup [a0, a1, a2, a3, a4, a5, a6]) := oTup_n (by show 7 ≤ 1000; decide)
@[simp] theorem oLst8 : oLst [a0, a1, a2, a3, a4, a5, a6, a7] = some (.node true .lst [a0, a1, a2, a3, a4, a5, a6, a7]) := oLst_n (by show 8 ≤ 1000; decide)
@[simp] theorem oTup8 : oTup [a0, a1, a2, a3, a4, a5, a6, a7] = some (.node (!frzL [a0, a1, a2, a3, a4, a5, a6, a7]) .tup [a0, a1, a2, a3, a4, a5, a6, a7]) := oTup_n (by show 8 ≤ 1000; decide)
@[simp] theorem oLst9 : oLst [a0, a1, a2, a3, a4, a5, a6, a7, a8] = some (.node true .lst [a0, a1, a2, a3, a4, a5, a6, a7, a8]) := oLst_n (by show 9 ≤ 1000; decide)
@[simp] theorem oTup9 : oTup [a0, a1, a2, a3, a4, a5, a6, a7, a8] = some (.node (!frzL [a0, a1, a2, a3, a4, a5, a6, a7, a8]) .tup [a0, a1, a2, a3, a4, a5, a6, a7, a8]) := oTup_n (by show 9 ≤ 1000; decide)
@[simp] theorem oLst10 : oLst [a0, a1, a2, a3, a4, a5, a6, a7, a8, a9] = some (.node true .lst [a0, a1, a2, a3, a4, a5, a6, a7, a8, a9]) := oLst_n (by show 10 ≤ 1000; decide)
@[simp] theorem oTup10 : oTup [a0, a1, a2, a3, a4, a5, a6, a7, a8, a9] = some (.node (!frzL [a0, a1, a2, a3, a4, a5, a6, a7, a8, a9]) .tup [a0, a1, a2, a3, a4, a5, a6, a7, a8, a9]) := oTup_n (by show 10 ≤ 1000; decide)
@[simp] theorem oLst11 : oLst [a0, a1, a2, a3, a4, a5, a6, a7, a8, a9, a10] = some (.node true .lst [a0, a1, a2, a3, a4, a5, a6, a7, a8, a9, a10]) := oLst_n (by show 11 ≤ 1000; decide)
@[simp] theorem oTup11 : oTup [a0, a1, a2, a3, a4, a5, a6, a7, a8, a9, a10] = some (.node (!frzL [a0, a1, a2, a3, a4, a5, a6, a7, a8, a9, a10]) .tup [a0, a1, a2, a3, a4, a5, a6, a7, a8, a9, a10]) := oTup_n (by show 11 ≤ 1000; decide)
@[simp] theorem oLst12 : oLst [a0, a1, a2, a3, a4, a5, a6, a7, a8, a9, a10, a11] = some (.node true .lst [a0, a1, a2, a3, a4, a5, a6, a7, a8, a9, a10, a11]) := oLst_n (by show 12 ≤ 1000; decide)
@[simp] theorem oTup12 : oTup [a0, a1, a2, a3, a4, a5, a6, a7, a8, a9, a10, a11] = some (.node (!frzL [a0, a1, a2, a3, a4, a5, a6, a7, a8, a9, a10, a11]) .tup [a0, a1, a2, a3, a4, a5, a6, a7, a8, a9, a10, a11]) := oTup_n (by show 12 ≤ 1000; decide)
@[simp] theorem oLst13 : oLst [a0, a1, a2, a3, a4, a5, a6, a7, a8, a9, a10, a11, a12] = some (.node true .lst [a0, a1, a2, a3, a4, a5, a6, a7, a8, a9, a10, a11, a12]) := oLst_n (by show 13 ≤ 1000; decide)
@[simp] theorem oTup13 : oTup [a0, a1, a2, a3, a4, a5, a6, a7, a8, a9, a10, a11, a12] = some (.node (!frzL [a0, a1, a2, a3, a4, a5, a6, a7, a8, a9, a10, a11, a12]) .tup [a0, a1, a2, a3, a4, a5, a6, a7, a8, a9, a10, a11, a12]) := oTup_n (by show 13 ≤ 1000; decide)
@[simp] theorem oLst14 : oLst [a0, a1, a2, a3, a4, a5, a6, a7, a8, a9, a10, a11, a12, a13] = some (.node true .lst [a0, a1, a2, a3, a4, a5, a6, a7, a8, a9, a10, a11, a12, a13]) := oLst_n (by show 14 ≤ 1000; decide)
@[simp] theorem oTup14 : oTup [a0, a1, a2, a3, a4, a5, a6, a7, a8, a9, a10, a11, a12, a13] = some (.node (!frzL [a0, a1, a2, a3, a4, a5, a6, a7, a8, a9, a10, a11, a12, a13]) .tup [a0, a1, a2, a3, a4, a5, a6, a7, a8, a9, a10, a11, a12, a13]) := oTup_n (by show 14 ≤ 1000; decide)
@[simp] theorem oLst15 : oLst [a0, a1, a2, a3, a4, a5, a6, a7, a8, a9, a10, a11, a12, a13, a14] = some (.node true .lst [a0, a1, a2, a3, a4, a5, a6, a7, a8, a9, a10, a11, a12, a13, a14]) := oLst_n (by show 15 ≤ 1000; decide)
@[simp] theorem oTup15 : oTup [a0, a1, a2, a3, a4, a5, a6, a7, a8, a9, a10, a11, a12, a13, a14] = some (.node (!frzL [a0, a1, a2, a3, a4, a5, a6, a7, a8, a9, a10, a11, a12, a13, a14]) .tup [a0, a1, a2, a3, a4, a5, a6, a7, a8, a9, a10, a11, a12, a13, a14]) := oTup_n (by show 15 ≤ 1000; decide)
@[simp] theorem oLst16 : oLst [a0, a1, a2, a3, a4, a5, a6, a7, a8, a9, a10, a11, a12, a13, a14, a15] = some (.node true .lst [a0, a1, a2, a3, a4, a5, a6, a7, a8, a9, a10, a11, a12, a13, a14, a15]) := oLst_n (by show 16 ≤ 1000; decide)
@[simp] theorem oTup16 : oTup [a0, a1, a2, a3, a4, a5, a6, a7, a8, a9, a10, a11, a12, a13, a14, a15] = some (.node (!frzL [a0, a1, a2, a3, a4, a5, a6, a7, a8, a9, a10, a11, a12, a13, a14, a15]) .tup [a0, a1, a2, a3, a4, a5, a6, a7, a8, a9, a10, a11, a12, a13, a14, a15]) := oTup_n (by show 16 ≤ 1000; decide)
end
theorem sIx_pos {n d : Nat} {i : Int} (h : 0 ≤ i) : HT.sIx n d (some i) = min i.toNat n := by
  show (if i < 0 then (i + (n : Int)).toNat else min i.toNat n) = _
  rw [if_neg (by omega)]
theorem oSl_drop {o : Bool} {xs : List D} {i : Int} (h : 0 ≤ i) (hf : frzL xs = true) : oSl (.node o .lst xs) (some i) none = some (.node true .lst (xs.drop i.toNat)) := by
  show (if frzL xs = true then some (D.node true .lst (cutD xs (some i) none)) else none) = _
  rw [if_pos hf]
  unfold cutD
  rw [sIx_pos h, show HT.sIx xs.length xs.length none = xs.length from rfl]
  congr 2
  rw [List.take_of_length_le (by rw [List.length_drop]; exact Nat.le_refl _)]
  by_cases z : i.toNat ≤ xs.length
  · rw [Nat.min_eq_left z]
  · rw [Nat.min_eq_right (by omega), List.drop_length, List.drop_eq_nil_of_le (by omega)]
theorem loopD_invR {g : D → Evn → Option Evn} {fb : FS} (I : Nat → Evn → Prop) (R : D → Evn → Prop) : ∀ (xs : List D) (k : Nat) (env : Evn), I k env → (∀ i x e, xs[i]? = some x → I (k + i) e → ∃ e1, g x e = some e1 ∧ ((∃ e2, (fb e1 = .nxt e2 ∨ fb e1 = .cnt e2) ∧ I (k + i + 1) e2) ∨ ∃ d e2, fb e1 = .ret d e2 ∧ R d e2)) →
    (∃ e', loopD g fb xs env = .nxt e' ∧ I (k + xs.length) e') ∨ ∃ d e', loopD g fb xs env = .ret d e' ∧ R d e'
  | [], k, env, h0, _ => .inl ⟨env, rfl, h0⟩
  | x :: xs, k, env, h0, st => by
    obtain ⟨e1, h1, h2⟩ := st 0 x env rfl h0
    rcases h2 with ⟨e2, h2, h3⟩ | ⟨d, e2, h2, h3⟩
    · have r := loopD_invR I R xs (k + 1) e2 h3 fun i y e hy hi => by
        have q := st (i + 1) y e hy (by rw [show k + (i + 1) = k + 1 + i from by omega]; exact hi)
        rw [show k + (i + 1) = k + 1 + i from by omega] at q
        exact q
      rw [List.length_cons, show k + (xs.length + 1) = k + 1 + xs.length from by omega]
      unfold loopD
      rw [h1]
      rcases h2 with h2 | h2 <;> simp only [h2] <;> exact r
    · refine .inr ⟨d, e2, ?_, h3⟩
      unfold loopD
      rw [h1]
      simp only [h2]
theorem compD_map {α : Type} {g : D → Evn → Option Evn} {ft : FT} {fe : FE} {env : Evn} {enc h : α → D} : ∀ {xs : List α}, (∀ a ∈ xs, ∃ e1 e2 e3, g (enc a) env = some e1 ∧ ft e1 = .ok true e2 ∧ fe e1 = .ok (h a) e3) → compD g ft fe env (xs.map enc) = some (xs.map h)
  | [], _ => rfl
  | a :: xs, q => by
    obtain ⟨e1, e2, e3, h1, h2, h3⟩ := q a (List.mem_cons_self ..)
    have r := compD_map (fun b hb => q b (List.mem_cons_of_mem _ hb))
    simp only [List.map_cons, compD, h1, h2, h3, r, Option.map_some]
end PL
namespace My
open PySem PySem.Spec L2 DL PL
def flw (xs : List D) (p r s : Int) : D := .node true .lst [.node true .lst xs, .int p, .int r, .int s]
def FlOk (f : D) : Prop := ∃ (xs : List Int) (p r s : Int), f = flw (xs.map .int) p r s ∧ 0 ≤ p ∧ 0 ≤ r ∧ (0 ≤ s ∧ s < 2147483647) ∧ xs.length ≤ 63
theorem log2_sm {n : Int} (h0 : 0 < n) (h : n < 2 ^ 62) : n.natAbs.log2 < 9000 := by
  have hz : n.natAbs ≠ 0 := by omega
  have l : n.natAbs.log2 < 62 := (Nat.log2_lt hz).mpr (by omega)
  omega
theorem draw1 (xs : List D) (p r s n : Int) (hr : 0 < r) (hn : 0 < n) (hn2 : n.natAbs.log2 < 9000) : F__law_draw [flw xs p r s, .int n] = .ret (.int (r % n)) [flw xs p (r / n) s] := by
  unfold F__law_draw runF B__law_draw flw
  simp [hr, hn, hn2, opSetI, ixN]
def hereOf (p s c : Int) : Int := (s ^ 3 + s * 31 + (p + 1) * 69621 + c % 2147483629 * 48271) % 2147483647
theorem draw2 (xs : List D) (p r s n c : Int) (hp : 0 ≤ p) (hr : r ≤ 0) (h0 : 0 ≤ s) (h1 : s < 2147483647) (hn : 0 < n) (hn2 : n.natAbs.log2 < 9000)
    (e : (p < xs.length ∧ atI xs p = some (.int c)) ∨ (¬ p < xs.length ∧ c = 0)) :
    F__law_draw [flw xs p r s, .int n] = if 1000000000000000000 ≤ absI c then .ret (.int (absI c % n)) [flw xs (p + 1) (absI c / n) s]
      else .ret (.int ((hereOf p s c / 8192 + hereOf p s c % 8191 * 40503) % n)) [flw xs (p + 1) r (hereOf p s c)] := by
  have hr' : ¬ (0 < r) := by omega
  have hs : s.natAbs < 18446744073709551616 := by omega
  unfold F__law_draw runF B__law_draw flw
  rcases e with ⟨hpl, e⟩ | ⟨hpl, rfl⟩
  · by_cases hc : 1000000000000000000 ≤ absI c
    · rw [if_pos hc]
      simp [hr', hn, hn2, opSetI, hpl, e, hp, hs, ixN, hc]
    · rw [if_neg hc]
      simp [hr', hn, hn2, opSetI, hpl, e, hp, hs, ixN, hc, hereOf]
  · simp [hr', hn, hn2, opSetI, hpl, hp, hs, ixN, absI, hereOf]
theorem draw_okL {f : D} {n : Int} (h : FlOk f) (h0 : 0 < n) (hn2 : n.natAbs.log2 < 9000) : ∃ r f', F__law_draw [f, .int n] = .ret (.int r) [f'] ∧ FlOk f' ∧ 0 ≤ r ∧ r < n := by
  obtain ⟨xs, p, r, s, rfl, hp, hr, ⟨hs, hs1⟩, hl⟩ := h
  by_cases q : 0 < r
  · exact ⟨_, _, draw1 _ p r s n q h0 hn2, ⟨xs, p, r / n, s, rfl, hp, Int.ediv_nonneg hr (by omega), ⟨hs, hs1⟩, hl⟩, Int.emod_nonneg _ (by omega), Int.emod_lt_of_pos _ h0⟩
  · have e : ∃ c, (p < (xs.map D.int).length ∧ atI (xs.map D.int) p = some (.int c)) ∨ (¬ p < (xs.map D.int).length ∧ c = 0) := by
      by_cases hpl : p < (xs.map D.int).length
      · rw [List.length_map] at hpl
        exact ⟨xs[p.toNat]'(by omega), .inl ⟨by rw [List.length_map]; exact hpl, by rw [atI_pos hp, List.getElem?_map, List.getElem?_eq_getElem (by omega)]; rfl⟩⟩
      · exact ⟨0, .inr ⟨hpl, rfl⟩⟩
    obtain ⟨c, e⟩ := e
    rw [draw2 (xs.map .int) p r s n c hp (by omega) hs hs1 h0 hn2 e]
    split
    · refine ⟨_, _, rfl, ⟨xs, p + 1, _, s, rfl, by omega, Int.ediv_nonneg ?_ (by omega), ⟨hs, hs1⟩, hl⟩, Int.emod_nonneg _ (by omega), Int.emod_lt_of_pos _ h0⟩
      unfold absI
      split <;> omega
    · refine ⟨_, _, rfl, ⟨xs, p + 1, r, _, rfl, by omega, hr, ⟨Int.emod_nonneg _ (by decide), Int.emod_lt_of_pos _ (by decide)⟩, hl⟩, Int.emod_nonneg _ (by omega), Int.emod_lt_of_pos _ h0⟩
theorem draw_ok {f : D} {n : Int} (h : FlOk f) (h0 : 0 < n) (h1 : n < 2 ^ 62) : ∃ r f', F__law_draw [f, .int n] = .ret (.int r) [f'] ∧ FlOk f' ∧ 0 ≤ r ∧ r < n :=
  draw_okL h h0 (log2_sm h0 h1)
end My
namespace My
open PySem PySem.Spec L2 DL PL
def wbD (a b c d : D) : D := .node true (.ins "Web" ["by", "own", "winds", "bonds"]) [a, b, c, d]
def wbZ (a b c d : D) : D := .node false (.ins "Web" ["by", "own", "winds", "bonds"]) [a, b, c, d]
def moD (a b c d : D) : D := .node true (.dic [.inr "by", .inr "own", .inr "winds", .inr "bonds"]) [a, b, c, d]
def moZ (a b c d : D) : D := .node false (.dic [.inr "by", .inr "own", .inr "winds", .inr "bonds"]) [a, b, c, d]
section
variable {a b c d x : D} {env e : Evn} {g : D → D}
@[simp] theorem wb_by : oFld "Web" "by" [wbD a b c d] = some a := rfl
@[simp] theorem wb_own : oFld "Web" "own" [wbD a b c d] = some b := rfl
@[simp] theorem wb_winds : oFld "Web" "winds" [wbD a b c d] = some c := rfl
@[simp] theorem wb_bonds : oFld "Web" "bonds" [wbD a b c d] = some d := rfl
@[simp] theorem wb_own' : opSetF "Web" "own" (wbD a b c d) [x] = some (.non, wbD a x c d) := rfl
@[simp] theorem wb_winds' : opSetF "Web" "winds" (wbD a b c d) [x] = some (.non, wbD a b x d) := rfl
@[simp] theorem wb_bonds' : opSetF "Web" "bonds" (wbD a b c d) [x] = some (.non, wbD a b c x) := rfl
@[simp] theorem wb_frz : (wbD a b c d).frz = false := rfl
@[simp] theorem wb_non : isNonD (wbD a b c d) = false := rfl
@[simp] theorem wb_m1 : isIns "Web" "points" (wbD a b c d) = true := rfl
@[simp] theorem wb_m2 : isIns "Web" "need_new" (wbD a b c d) = true := rfl
@[simp] theorem wb_m3 : isIns "Web" "need_tie" (wbD a b c d) = true := rfl
@[simp] theorem wb_m4 : isIns "Web" "turned" (wbD a b c d) = true := rfl
@[simp] theorem wb_m5 : isIns "Web" "with_moment" (wbD a b c d) = true := rfl
@[simp] theorem wb_m6 : isIns "Web" "with_span" (wbD a b c d) = true := rfl
@[simp] theorem wb_m7 : isIns "Web" "with_tie" (wbD a b c d) = true := rfl
@[simp] theorem wb_m8 : isIns "Web" "moments" (wbD a b c d) = true := rfl
@[simp] theorem wb_m9 : isIns "Web" "spans" (wbD a b c d) = true := rfl
@[simp] theorem wb_m10 : isIns "Web" "ties" (wbD a b c d) = true := rfl
@[simp] theorem wz_by : oFld "Web" "by" [wbZ a b c d] = some a := rfl
@[simp] theorem wz_own : oFld "Web" "own" [wbZ a b c d] = some b := rfl
@[simp] theorem wz_winds : oFld "Web" "winds" [wbZ a b c d] = some c := rfl
@[simp] theorem wz_bonds : oFld "Web" "bonds" [wbZ a b c d] = some d := rfl
@[simp] theorem wz_frz : (wbZ a b c d).frz = (a.frz && (b.frz && (c.frz && (d.frz && true)))) := rfl
@[simp] theorem wz_non : isNonD (wbZ a b c d) = false := rfl
@[simp] theorem wz_m1 : isIns "Web" "points" (wbZ a b c d) = true := rfl
@[simp] theorem wz_m8 : isIns "Web" "moments" (wbZ a b c d) = true := rfl
@[simp] theorem wz_m9 : isIns "Web" "spans" (wbZ a b c d) = true := rfl
@[simp] theorem wz_m10 : isIns "Web" "ties" (wbZ a b c d) = true := rfl
@[simp] theorem wb_fz : (wbD a b c d).fz = wbZ a.fz b.fz c.fz d.fz := rfl
@[simp] theorem wz_fz : (wbZ a b c d).fz = wbZ a.fz b.fz c.fz d.fz := rfl
@[simp] theorem mo_fz : (moD a b c d).fz = moZ a.fz b.fz c.fz d.fz := rfl
@[simp] theorem mz_fz : (moZ a b c d).fz = moZ a.fz b.fz c.fz d.fz := rfl
@[simp] theorem mz_by : oItm [moZ a b c d, .str "by"] = some a := rfl
@[simp] theorem mz_own : oItm [moZ a b c d, .str "own"] = some b := rfl
@[simp] theorem mz_winds : oItm [moZ a b c d, .str "winds"] = some c := rfl
@[simp] theorem mz_bonds : oItm [moZ a b c d, .str "bonds"] = some d := rfl
@[simp] theorem mz_frz : (moZ a b c d).frz = (a.frz && (b.frz && (c.frz && (d.frz && true)))) := rfl
@[simp] theorem mo_by : oItm [moD a b c d, .str "by"] = some a := rfl
@[simp] theorem mo_own : oItm [moD a b c d, .str "own"] = some b := rfl
@[simp] theorem mo_winds : oItm [moD a b c d, .str "winds"] = some c := rfl
@[simp] theorem mo_bonds : oItm [moD a b c d, .str "bonds"] = some d := rfl
@[simp] theorem mo_own' : opSetI (moD a b c d) [x, .str "own"] = some (.non, moD a x c d) := rfl
@[simp] theorem mo_frz : (moD a b c d).frz = false := rfl
@[simp] theorem mo_pw : pIxH (moD a b c d, g) (.ok (.str "winds") e) = some (c, fun x => g (moD a b x d)) := rfl
@[simp] theorem mo_pb : pIxH (moD a b c d, g) (.ok (.str "bonds") e) = some (d, fun x => g (moD a b c x)) := rfl
end
def oD : Option Int → D
  | none => .non
  | some i => .int i
@[simp] theorem oD_n : isNonD (oD none) = true := rfl
@[simp] theorem oD_s {i : Int} : isNonD (oD (some i)) = false := rfl
@[simp] theorem oD_gt {i j : Int} : oGt [oD (some i), oD (some j)] = some (.bl (decide (j < i))) := rfl
structure Wd where
  e : Str
  b : Str
  lo : Int
  hi : Int
  late : Option Int
structure Bd where
  one : Str
  other : Str
  least : Option Int
  most : Option Int
def Wd.d (w : Wd) : D := .node false .tup [.str w.e, .str w.b, .int w.lo, .int w.hi, oD w.late]
def Bd.d (w : Bd) : D := .node false .tup [.str w.one, .str w.other, oD w.least, oD w.most]
@[simp] theorem oD_frz {o : Option Int} : (oD o).frz = true := by cases o <;> rfl
@[simp] theorem Wd.frz {w : Wd} : w.d.frz = true := by simp [Wd.d]
@[simp] theorem Bd.frz {w : Bd} : w.d.frz = true := by simp [Bd.d]
@[simp] theorem wds_frz {l : List Wd} : frzL (l.map Wd.d) = true := frzL_of fun d h => by obtain ⟨z, _, rfl⟩ := List.mem_map.mp h; exact Wd.frz
@[simp] theorem bds_frz {l : List Bd} : frzL (l.map Bd.d) = true := frzL_of fun d h => by obtain ⟨z, _, rfl⟩ := List.mem_map.mp h; exact Bd.frz
abbrev L (xs : List D) : D := .node true .lst xs
structure Mdl where
  by_ : Int
  own : List Str
  winds : List Wd
  bonds : List Bd
def Mdl.web (m : Mdl) : D := wbD (.int m.by_) (L (m.own.map .str)) (L (m.winds.map Wd.d)) (L (m.bonds.map Bd.d))
def Mdl.dict (m : Mdl) : D := moD (.int m.by_) (L (m.own.map .str)) (L (m.winds.map Wd.d)) (L (m.bonds.map Bd.d))
def Mdl.points (m : Mdl) : List Str := "start" :: (m.own ++ m.winds.map (·.e))
def Mdl.Sm (m : Mdl) : Prop := m.own.length ≤ 100 ∧ m.winds.length ≤ 100 ∧ m.bonds.length ≤ 100
def abc : Str := "abcdefghijklmnopqrstuvwxyz"
def abcIn (c : Nat) : Bool := decide (c ∈ abc.cps.toList)
def isNm (s : Str) : Bool := decide (1 ≤ s.length ∧ s.length ≤ 8) && s.cps.toList.all abcIn
theorem inD_str (x : Str) (l : List Str) : inD (.str x) (l.map .str) = some (decide (x ∈ l)) := by
  have h : scVL (l.map D.str) = some (l.map V.str) := by
    induction l with
    | nil => rfl
    | cons a l ih => rw [List.map_cons]; unfold scVL; rw [ih]; rfl
  unfold inD
  rw [h]
  show some (inV (.str x) (l.map V.str)) = _
  congr 1
  unfold inV
  rw [List.any_map, Bool.eq_iff_iff, List.any_eq_true, decide_eq_true_eq]
  constructor
  · rintro ⟨y, hy, h⟩
    have e : y = x := by simpa [eqV] using h
    rw [← e]; exact hy
  · intro h
    exact ⟨x, h, by simp [eqV]⟩
theorem oIn_str (x : Str) (o : Bool) (l : List Str) : oInAny [.str x, .node o .lst (l.map .str)] = some (.bl (decide (x ∈ l))) := by
  show (inD (.str x) (l.map .str)).map D.bl = _
  rw [inD_str]; rfl
theorem oNotIn_str (x : Str) (o : Bool) (l : List Str) : oNotInAny [.str x, .node o .lst (l.map .str)] = some (.bl (!decide (x ∈ l))) := by
  show (inD (.str x) (l.map .str)).map (fun b => D.bl (!b)) = _
  rw [inD_str]; rfl
def LateOk : Option Int → Prop
  | none => True
  | some i => 0 ≤ i ∧ i ≤ 1000
def BdOk : Option Int → Prop
  | none => True
  | some i => -1000 ≤ i ∧ i ≤ 1000
def TieOk : Option Int → Option Int → Prop
  | none, none => False
  | some i, none => BdOk (some i)
  | none, some i => BdOk (some i)
  | some i, some j => BdOk (some i) ∧ BdOk (some j) ∧ i ≤ j
end My
namespace My
open PySem PySem.Spec L2 DL
theorem gw_in (x a b : Str) (o : Bool) : oInAny [.str x, .node o .lst [.str a, .str b]] = some (.bl (decide (x = a) || decide (x = b))) := by
  have q := oIn_str x o [a, b]
  rw [show ([a, b] : List Str).map D.str = [.str a, .str b] from rfl] at q
  rw [q]
  simp
theorem kids_told : KidsD F__law_kids where
  leaf := fun w xs hw hx => by
    unfold F__law_kids runF B__law_kids
    rcases hw with rfl | rfl <;> simp [gw_in]
  wit := fun b a hb => by
    unfold F__law_kids runF B__law_kids
    have e1 : ¬ ((Str.ofString "within") = (Str.ofString "ours")) := by decide
    have e2 : ¬ ((Str.ofString "within") = (Str.ofString "weather")) := by decide
    simp [gw_in, e1, e2, D.frz]
  many := fun w a h1 h2 => by
    unfold F__law_kids runF B__law_kids
    have n1 : w ≠ "ours" := fun z => h1 (.inl z)
    have n2 : w ≠ "weather" := fun z => h1 (.inr z)
    simp [gw_in, n1, n2, h2, D.frz]
end My
namespace My
open PySem PySem.Spec L2 DL
section
variable {P : Program} {w : World} {K : PySem.W.Frag} {mg : Str → Option Value} {base : Heap} {fd__law_flow fd__law_whole fd__law_good_leaf fd__law_good_form fd__law_kids fd__law_leaf_count fd__law_plan_depth fd__law_reading_count fd__law_good_plan fd__law_draw fd__law_leaf fd__law_plan fd__law_plan_copy fd__law_same fd__law_ways fd__law_wreck fd_anew fd_parts_of fd_choices fd_is_within fd_is_leaf fd_is_formed fd_leaves fd_need_plan fd_ways fd_readings fd_law : FuncData}
theorem bt__law_whole_3_ (F : FunD K "_law_whole" "_law_whole" (defArgs (topS 25)) (defBody (topS 25)) (defScope (topS 25)) [] [] (He.ga K "_law_whole") fd__law_whole) : BOk K fd__law_whole ["_law_thing", "_law_low", "_law_high"] 3 [] [.arg 0, .arg 1, .arg 2] := BOk.all (ps := ["_law_thing", "_law_low", "_law_high"]) F fun _ _ _ _ _ _ us hl => match us, hl with | [_, _, _], _ => rfl
theorem bt__law_good_form_1_ (F : FunD K "_law_good_form" "_law_good_form" (defArgs (topS 33)) (defBody (topS 33)) (defScope (topS 33)) [] [] (He.ga K "_law_good_form") fd__law_good_form) : BOk K fd__law_good_form ["_law_plan_here"] 1 [] [.arg 0] := BOk.all (ps := ["_law_plan_here"]) F fun _ _ _ _ _ _ us hl => match us, hl with | [_], _ => rfl
theorem bt__law_good_leaf_1_ (F : FunD K "_law_good_leaf" "_law_good_leaf" (defArgs (topS 32)) (defBody (topS 32)) (defScope (topS 32)) [] [] (He.ga K "_law_good_leaf") fd__law_good_leaf) : BOk K fd__law_good_leaf ["_law_plan_here"] 1 [] [.arg 0] := BOk.all (ps := ["_law_plan_here"]) F fun _ _ _ _ _ _ us hl => match us, hl with | [_], _ => rfl
theorem bt__law_leaf_count_1_ (F : FunD K "_law_leaf_count" "_law_leaf_count" (defArgs (topS 29)) (defBody (topS 29)) (defScope (topS 29)) [] [] (He.ga K "_law_leaf_count") fd__law_leaf_count) : BOk K fd__law_leaf_count ["_law_plan_here"] 1 [] [.arg 0] := BOk.all (ps := ["_law_plan_here"]) F fun _ _ _ _ _ _ us hl => match us, hl with | [_], _ => rfl
theorem bt__law_kids_1_ (F : FunD K "_law_kids" "_law_kids" (defArgs (topS 28)) (defBody (topS 28)) (defScope (topS 28)) [] [] (He.ga K "_law_kids") fd__law_kids) : BOk K fd__law_kids ["_law_plan_here"] 1 [] [.arg 0] := BOk.all (ps := ["_law_plan_here"]) F fun _ _ _ _ _ _ us hl => match us, hl with | [_], _ => rfl
theorem bt__law_plan_depth_1_ (F : FunD K "_law_plan_depth" "_law_plan_depth" (defArgs (topS 30)) (defBody (topS 30)) (defScope (topS 30)) [] [] (He.ga K "_law_plan_depth") fd__law_plan_depth) : BOk K fd__law_plan_depth ["_law_plan_here"] 1 [] [.arg 0] := BOk.all (ps := ["_law_plan_here"]) F fun _ _ _ _ _ _ us hl => match us, hl with | [_], _ => rfl
theorem bt__law_reading_count_1_ (F : FunD K "_law_reading_count" "_law_reading_count" (defArgs (topS 31)) (defBody (topS 31)) (defScope (topS 31)) [] [] (He.ga K "_law_reading_count") fd__law_reading_count) : BOk K fd__law_reading_count ["_law_plan_here"] 1 [] [.arg 0] := BOk.all (ps := ["_law_plan_here"]) F fun _ _ _ _ _ _ us hl => match us, hl with | [_], _ => rfl
theorem bt__law_draw_2_ (F : FunD K "_law_draw" "_law_draw" (defArgs (topS 23)) (defBody (topS 23)) (defScope (topS 23)) [] [] (He.ga K "_law_draw") fd__law_draw) : BOk K fd__law_draw ["_law_flow_here", "_law_size"] 2 [] [.arg 0, .arg 1] := BOk.all (ps := ["_law_flow_here", "_law_size"]) F fun _ _ _ _ _ _ us hl => match us, hl with | [_, _], _ => rfl
theorem bt__law_plan_4_ (F : FunD K "_law_plan" "_law_plan" (defArgs (topS 27)) (defBody (topS 27)) (defScope (topS 27)) [] [] (He.ga K "_law_plan") fd__law_plan) : BOk K fd__law_plan ["_law_flow_here", "_law_bottom", "_law_words", "_law_far"] 4 [] [.arg 0, .arg 1, .arg 2, .arg 3] := BOk.all (ps := ["_law_flow_here", "_law_bottom", "_law_words", "_law_far"]) F fun _ _ _ _ _ _ us hl => match us, hl with | [_, _, _, _], _ => rfl
theorem bt__law_leaf_2_ (F : FunD K "_law_leaf" "_law_leaf" (defArgs (topS 26)) (defBody (topS 26)) (defScope (topS 26)) [] [] (He.ga K "_law_leaf") fd__law_leaf) : BOk K fd__law_leaf ["_law_flow_here", "_law_far"] 2 [] [.arg 0, .arg 1] := BOk.all (ps := ["_law_flow_here", "_law_far"]) F fun _ _ _ _ _ _ us hl => match us, hl with | [_, _], _ => rfl
theorem bt__law_plan_copy_1_ (F : FunD K "_law_plan_copy" "_law_plan_copy" (defArgs (topS 36)) (defBody (topS 36)) (defScope (topS 36)) [] [] (He.ga K "_law_plan_copy") fd__law_plan_copy) : BOk K fd__law_plan_copy ["_law_plan_here"] 1 [] [.arg 0] := BOk.all (ps := ["_law_plan_here"]) F fun _ _ _ _ _ _ us hl => match us, hl with | [_], _ => rfl
theorem bt__law_same_2_ (F : FunD K "_law_same" "_law_same" (defArgs (topS 24)) (defBody (topS 24)) (defScope (topS 24)) [] [] (He.ga K "_law_same") fd__law_same) : BOk K fd__law_same ["_law_found", "_law_due"] 2 [] [.arg 0, .arg 1] := BOk.all (ps := ["_law_found", "_law_due"]) F fun _ _ _ _ _ _ us hl => match us, hl with | [_, _], _ => rfl
theorem bt__law_ways_1_ (F : FunD K "_law_ways" "_law_ways" (defArgs (topS 35)) (defBody (topS 35)) (defScope (topS 35)) [] [] (He.ga K "_law_ways") fd__law_ways) : BOk K fd__law_ways ["_law_plan_here"] 1 [] [.arg 0] := BOk.all (ps := ["_law_plan_here"]) F fun _ _ _ _ _ _ us hl => match us, hl with | [_], _ => rfl
theorem bt__law_wreck_1_ (F : FunD K "_law_wreck" "_law_wreck" (defArgs (topS 37)) (defBody (topS 37)) (defScope (topS 37)) [] [] (He.ga K "_law_wreck") fd__law_wreck) : BOk K fd__law_wreck ["_law_plan_here"] 1 [] [.arg 0] := BOk.all (ps := ["_law_plan_here"]) F fun _ _ _ _ _ _ us hl => match us, hl with | [_], _ => rfl
theorem bt_anew_1_ (F : FunD K "anew" "anew" (defArgs (topS 19)) (defBody (topS 19)) (defScope (topS 19)) [] [] (He.ga K "anew") fd_anew) : BOk K fd_anew ["plan"] 1 [] [.arg 0] := BOk.all (ps := ["plan"]) F fun _ _ _ _ _ _ us hl => match us, hl with | [_], _ => rfl
theorem bt_parts_of_1_ (F : FunD K "parts_of" "parts_of" (defArgs (topS 14)) (defBody (topS 14)) (defScope (topS 14)) [] [] (He.ga K "parts_of") fd_parts_of) : BOk K fd_parts_of ["plan"] 1 [] [.arg 0] := BOk.all (ps := ["plan"]) F fun _ _ _ _ _ _ us hl => match us, hl with | [_], _ => rfl
theorem bt_choices_1_ (F : FunD K "choices" "choices" (defArgs (topS 16)) (defBody (topS 16)) (defScope (topS 16)) [] [] (He.ga K "choices") fd_choices) : BOk K fd_choices ["plan"] 1 [] [.arg 0] := BOk.all (ps := ["plan"]) F fun _ _ _ _ _ _ us hl => match us, hl with | [_], _ => rfl
theorem bt_is_within_3_ (F : FunD K "is_within" "is_within" (defArgs (topS 5)) (defBody (topS 5)) (defScope (topS 5)) [] [] (He.ga K "is_within") fd_is_within) : BOk K fd_is_within ["thing", "low", "high"] 3 [] [.arg 0, .arg 1, .arg 2] := BOk.all (ps := ["thing", "low", "high"]) F fun _ _ _ _ _ _ us hl => match us, hl with | [_, _, _], _ => rfl
theorem bt_is_formed_2_ (F : FunD K "is_formed" "is_formed" (defArgs (topS 13)) (defBody (topS 13)) (defScope (topS 13)) [] [] (He.ga K "is_formed") fd_is_formed) : BOk K fd_is_formed ["plan", "deep"] 2 [] [.arg 0, .arg 1] := BOk.all (ps := ["plan", "deep"]) F fun _ _ _ _ _ _ us hl => match us, hl with | [_, _], _ => rfl
theorem bt_is_leaf_1_ (F : FunD K "is_leaf" "is_leaf" (defArgs (topS 12)) (defBody (topS 12)) (defScope (topS 12)) [] [] (He.ga K "is_leaf") fd_is_leaf) : BOk K fd_is_leaf ["plan"] 1 [] [.arg 0] := BOk.all (ps := ["plan"]) F fun _ _ _ _ _ _ us hl => match us, hl with | [_], _ => rfl
theorem bt_leaves_1_ (F : FunD K "leaves" "leaves" (defArgs (topS 15)) (defBody (topS 15)) (defScope (topS 15)) [] [] (He.ga K "leaves") fd_leaves) : BOk K fd_leaves ["plan"] 1 [] [.arg 0] := BOk.all (ps := ["plan"]) F fun _ _ _ _ _ _ us hl => match us, hl with | [_], _ => rfl
theorem bt_ways_1_ (F : FunD K "ways" "ways" (defArgs (topS 18)) (defBody (topS 18)) (defScope (topS 18)) [] [] (He.ga K "ways") fd_ways) : BOk K fd_ways ["plan"] 1 [] [.arg 0] := BOk.all (ps := ["plan"]) F fun _ _ _ _ _ _ us hl => match us, hl with | [_], _ => rfl
theorem bt_need_plan_1_ (F : FunD K "need_plan" "need_plan" (defArgs (topS 17)) (defBody (topS 17)) (defScope (topS 17)) [] [] (He.ga K "need_plan") fd_need_plan) : BOk K fd_need_plan ["plan"] 1 [] [.arg 0] := BOk.all (ps := ["plan"]) F fun _ _ _ _ _ _ us hl => match us, hl with | [_], _ => rfl
theorem bt_readings_1_ (F : FunD K "readings" "readings" (defArgs (topS 20)) (defBody (topS 20)) (defScope (topS 20)) [] [] (He.ga K "readings") fd_readings) : BOk K fd_readings ["plan"] 1 [] [.arg 0] := BOk.all (ps := ["plan"]) F fun _ _ _ _ _ _ us hl => match us, hl with | [_], _ => rfl
theorem bt__law_good_plan_1_ (F : FunD K "_law_good_plan" "_law_good_plan" (defArgs (topS 34)) (defBody (topS 34)) (defScope (topS 34)) [] [] (He.ga K "_law_good_plan") fd__law_good_plan) : BOk K fd__law_good_plan ["_law_plan_here"] 1 [] [.arg 0] := BOk.all (ps := ["_law_plan_here"]) F fun _ _ _ _ _ _ us hl => match us, hl with | [_], _ => rfl
theorem bt__law_flow_1_ (F : FunD K "_law_flow" "_law_flow" (defArgs (topS 22)) (defBody (topS 22)) (defScope (topS 22)) [] [] (He.ga K "_law_flow") fd__law_flow) : BOk K fd__law_flow ["_law_script"] 1 [] [.arg 0] := BOk.all (ps := ["_law_script"]) F fun _ _ _ _ _ _ us hl => match us, hl with | [_], _ => rfl
theorem t__law_flow (fc : FC fa K mg) (F : FunD K "_law_flow" "_law_flow" (defArgs (topS 22)) (defBody (topS 22)) (defScope (topS 22)) [] [] (He.ga K "_law_flow") fd__law_flow) : FnOk P w K mg base (L2.CX P w) 1 (He.ga K "_law_flow") fd__law_flow ["_law_script"] (spD K [false] F__law_flow) :=
  def_ok (N := ["_law_script"]) F (C8.fnScope_by (by decide)) rfl fun cdv A outer s H E W c => by
      have cx := c.toCCx
      have hN : List.Nodup (["_law_script"] : List Str) := by decide
      exact (dss_one (ds_ret (de_lst (da_cons (de_callTy (cr_list rfl) ok_list (fc.fr' 0) (da_cons (de_slice (de_var 0) do_none (do_some de_int)) da_nil)) (da_cons de_int (da_cons de_int (da_cons de_int da_nil)))))))
theorem t__law_whole (fc : FC fa K mg) (h_tab_bool : isiB K (.type "bool") tab_bool = true) (h_tab_int : isiB K (.type "int") tab_int = true) (F : FunD K "_law_whole" "_law_whole" (defArgs (topS 25)) (defBody (topS 25)) (defScope (topS 25)) [] [] (He.ga K "_law_whole") fd__law_whole) : FnOk P w K mg base (L2.CX P w) 1 (He.ga K "_law_whole") fd__law_whole ["_law_thing", "_law_low", "_law_high"] (spD K [false, false, false] F__law_whole) :=
  def_ok (N := ["_law_thing", "_law_low", "_law_high"]) F (C8.fnScope_by (by decide)) rfl fun cdv A outer s H E W c => by
      have cx := c.toCCx
      have hN : List.Nodup (["_law_thing", "_law_low", "_law_high"] : List Str) := by decide
      exact (dss_one (ds_ret (de_and (de_isiB "int" tab_int (fc.fr' 1) (fc.fr' 3) (de_var 0) h_tab_int) (de_and (de_not (de_isiB "bool" tab_bool (fc.fr' 1) (fc.fr' 2) (de_var 0) h_tab_bool)) (de_bool1 (de_chain op_le op_le ok_le ok_le (de_var 1) (de_var 0) (de_var 2)))))))
theorem t__law_good_leaf (fc : FC fa K mg) (F : FunD K "_law_good_leaf" "_law_good_leaf" (defArgs (topS 32)) (defBody (topS 32)) (defScope (topS 32)) [] [] (He.ga K "_law_good_leaf") fd__law_good_leaf) (d__law_whole : FnOk P w K mg base (L2.CX P w) 1 (He.ga K "_law_whole") fd__law_whole ["_law_thing", "_law_low", "_law_high"] (spD K [false, false, false] F__law_whole)) (kp__law_whole : PySem.W.keepIn K (.ref (He.ga K "_law_whole")) = true) (b__law_whole_3_ : BOk K fd__law_whole ["_law_thing", "_law_low", "_law_high"] 3 [] [.arg 0, .arg 1, .arg 2]) : FnOk P w K mg base (L2.CX P w) 2 (He.ga K "_law_good_leaf") fd__law_good_leaf ["_law_plan_here"] (spD K [false] F__law_good_leaf) :=
  def_ok (N := ["_law_plan_here", "_law_good"]) F (C8.fnScope_by (by decide)) rfl fun cdv A outer s H E W c => by
      have cx := c.toCCx
      have hN : List.Nodup (["_law_plan_here", "_law_good"] : List Str) := by decide
      exact (dss_cons (ds_if (dt_cmp (op_eqF (unitsE cx)) ok_eqF (de_sub (units1 cx) (de_var 0) de_int) de_str) (dss_cons (ds_set 1 hN (de_and (dc cx d__law_whole (fc.gl' 4) kp__law_whole b__law_whole_3_ (dall_pos (dg_val (de_sub (units1 cx) (de_var 0) de_int) (dg_val de_int (dg_val de_int dg_nil))))) (de_bool1 (dc cx d__law_whole (fc.gl' 4) kp__law_whole b__law_whole_3_ (dall_pos (dg_val (de_sub (units1 cx) (de_var 0) de_int) (dg_val de_int (dg_val de_int dg_nil))))))))
  (dss_one (ds_ret (de_and (de_var 1) (de_bool1 (de_cmp op_le ok_le (de_sub (units1 cx) (de_var 0) de_int) (de_sub (units1 cx) (de_var 0) de_int))))))) dss_nil)
  (dss_cons (ds_set 1 hN (de_and (dc cx d__law_whole (fc.gl' 4) kp__law_whole b__law_whole_3_ (dall_pos (dg_val (de_sub (units1 cx) (de_var 0) de_int) (dg_val de_int (dg_val de_int dg_nil))))) (de_bool1 (dc cx d__law_whole (fc.gl' 4) kp__law_whole b__law_whole_3_ (dall_pos (dg_val (de_sub (units1 cx) (de_var 0) de_int) (dg_val de_int (dg_val de_int dg_nil))))))))
  (dss_cons (ds_set 1 hN (de_and (de_var 1) (de_bool1 (de_cmp op_le ok_le (de_sub (units1 cx) (de_var 0) de_int) (de_sub (units1 cx) (de_var 0) de_int)))))
  (dss_one (ds_ret (de_and (de_var 1) (de_bool1 (de_or (de_cmp op_isN ok_isN (de_sub (units1 cx) (de_var 0) de_int) de_non) (de_bool1 (dc cx d__law_whole (fc.gl' 4) kp__law_whole b__law_whole_3_ (dall_pos (dg_val (de_sub (units1 cx) (de_var 0) de_int) (dg_val de_int (dg_val de_int dg_nil))))))))))))))
theorem t__law_good_form {lv : Nat} (fc : FC fa K mg) (h_tab_list : isiB K (.type "list") tab_list = true) (h_tab_tuple : isiB K (.type "tuple") tab_tuple = true) (F : FunD K "_law_good_form" "_law_good_form" (defArgs (topS 33)) (defBody (topS 33)) (defScope (topS 33)) [] [] (He.ga K "_law_good_form") fd__law_good_form) (d__law_whole : FnOk P w K mg base (L2.CX P w) 1 (He.ga K "_law_whole") fd__law_whole ["_law_thing", "_law_low", "_law_high"] (spD K [false, false, false] F__law_whole)) (kp__law_whole : PySem.W.keepIn K (.ref (He.ga K "_law_whole")) = true) (d__law_good_leaf : FnOk P w K mg base (L2.CX P w) 2 (He.ga K "_law_good_leaf") fd__law_good_leaf ["_law_plan_here"] (spD K [false] F__law_good_leaf)) (kp__law_good_leaf : PySem.W.keepIn K (.ref (He.ga K "_law_good_leaf")) = true) (kp__law_good_form : PySem.W.keepIn K (.ref (He.ga K "_law_good_form")) = true) (b__law_good_form_1_ : BOk K fd__law_good_form ["_law_plan_here"] 1 [] [.arg 0]) (b__law_whole_3_ : BOk K fd__law_whole ["_law_thing", "_law_low", "_law_high"] 3 [] [.arg 0, .arg 1, .arg 2]) (b__law_good_leaf_1_ : BOk K fd__law_good_leaf ["_law_plan_here"] 1 [] [.arg 0]) : ∀ n, FnOk P w K mg base (L2.CX P w) (3 + n) (He.ga K "_law_good_form") fd__law_good_form ["_law_plan_here"] (spD K [false] (F__law_good_form_n n))
  | 0 => fnOk_stuck rfl
  | n + 1 => by
    have d__law_good_form := t__law_good_form (lv := lv) fc h_tab_list h_tab_tuple F d__law_whole kp__law_whole d__law_good_leaf kp__law_good_leaf kp__law_good_form b__law_good_form_1_ b__law_whole_3_ b__law_good_leaf_1_ n
    have out : FnOk P w K mg base (L2.CX P w) (3 + n + 1) (He.ga K "_law_good_form") fd__law_good_form ["_law_plan_here"] (spD K [false] (F__law_good_form_n (n + 1))) := def_ok (N := ["_law_plan_here", "_law_sizes", "_law_one"]) F (C8.fnScope_by (by decide)) rfl fun cdv A outer s H E W c => by
      have cx := c.toCCx
      have hN : List.Nodup (["_law_plan_here", "_law_sizes", "_law_one"] : List Str) := by decide
      exact (dss_cons (ds_set 1 hN (de_disp (dp_cons de_int (dp_cons de_int (dp_cons de_int (dp_cons de_int (dp_cons de_int (dp_cons de_int dp_nil))))))))
  (dss_cons (ds_if (DW.dt (dw_or (dt_not (dt_val (de_isiB "tuple" tab_tuple (fc.fr' 1) (fc.fr' 9) (de_var 0) h_tab_tuple))) (dw_or1 (dt_cmp (op_eqF (unitsE cx)) ok_eqF (de_callB cr_len ok_len (fc.fr' 7) (da_cons (de_var 0) da_nil)) de_int)))) (dss_one (ds_ret (de_own de_bl))) dss_nil)
  (dss_cons (ds_if (dt_cmp (op_neF (unitsE cx)) ok_neF (de_get2 (units1 cx) (de_var 1) (de_sub (units1 cx) (de_var 0) de_int) (de_un un_neg ok_neg de_int)) (de_callB cr_len ok_len (fc.fr' 7) (da_cons (de_var 0) da_nil))) (dss_one (ds_ret (de_own de_bl))) dss_nil)
  (dss_cons (ds_if (dt_cmp (op_inAny (units1 cx)) ok_inAny (de_sub (units1 cx) (de_var 0) de_int) (de_lst (da_cons de_str (da_cons de_str da_nil)))) (dss_one (ds_ret (dc cx d__law_good_leaf (fc.gl' 8) kp__law_good_leaf b__law_good_leaf_1_ (dall_pos (dg_val (de_var 0) dg_nil))))) dss_nil)
  (dss_cons (ds_if (dt_cmp (op_eqF (unitsE cx)) ok_eqF (de_sub (units1 cx) (de_var 0) de_int) de_str) (dss_one (ds_ret (de_and (dc cx d__law_whole (fc.gl' 4) kp__law_whole b__law_whole_3_ (dall_pos (dg_val (de_sub (units1 cx) (de_var 0) de_int) (dg_val de_int (dg_val de_int dg_nil))))) (de_bool1 (dc cx d__law_good_form (fc.gl' 5) kp__law_good_form b__law_good_form_1_ (dall_pos (dg_val (de_sub (units1 cx) (de_var 0) de_int) dg_nil))))))) dss_nil)
  (dss_cons (ds_if (DW.dt (dw_or (dt_not (dt_val (de_isiB "list" tab_list (fc.fr' 1) (fc.fr' 0) (de_sub (units1 cx) (de_var 0) de_int) h_tab_list))) (dw_or1 (dt_not (dt_chain op_le op_le ok_le ok_le de_int (de_callB cr_len ok_len (fc.fr' 7) (da_cons (de_sub (units1 cx) (de_var 0) de_int) da_nil)) de_int))))) (dss_one (ds_ret (de_own de_bl))) dss_nil)
  (dss_one (ds_ret (de_callB (cr_all rfl) ok_all (fc.fr' 6) (da_cons (de_lc 3 [2] [("_law_one", 2)] rfl hN (di_any (de_sub (units1 cx) (de_var 0) de_int)) (fun s2 H2 C2 cl2 fp2 => (dg_name 2 hN)) (fun s2 H2 C2 cl2 fp2 => dts_nil) (fun s2 H2 C2 cl2 fp2 => (dc (cxB cx) d__law_good_form (fc.gl' 5) kp__law_good_form b__law_good_form_1_ (dall_pos (dg_val (de_var 2) dg_nil))))) da_nil))))))))))
    exact out
theorem t__law_kids (fc : FC fa K mg) (F : FunD K "_law_kids" "_law_kids" (defArgs (topS 28)) (defBody (topS 28)) (defScope (topS 28)) [] [] (He.ga K "_law_kids") fd__law_kids) : FnOk P w K mg base (L2.CX P w) 1 (He.ga K "_law_kids") fd__law_kids ["_law_plan_here"] (spD K [false] F__law_kids) :=
  def_ok (N := ["_law_plan_here"]) F (C8.fnScope_by (by decide)) rfl fun cdv A outer s H E W c => by
      have cx := c.toCCx
      have hN : List.Nodup (["_law_plan_here"] : List Str) := by decide
      exact (dss_cons (ds_if (dt_cmp (op_inAny (units1 cx)) ok_inAny (de_sub (units1 cx) (de_var 0) de_int) (de_lst (da_cons de_str (da_cons de_str da_nil)))) (dss_one (ds_ret (de_lst da_nil))) dss_nil)
  (dss_one (ds_ret (de_ifExp (dt_cmp (op_eqF (unitsE cx)) ok_eqF (de_sub (units1 cx) (de_var 0) de_int) de_str) (de_lst (da_cons (de_chk (de_sub (units1 cx) (de_var 0) de_int)) da_nil)) (de_own (de_chk (de_sub (units1 cx) (de_var 0) de_int)))))))
theorem t__law_leaf_count {lv : Nat} (fc : FC fa K mg) (F : FunD K "_law_leaf_count" "_law_leaf_count" (defArgs (topS 29)) (defBody (topS 29)) (defScope (topS 29)) [] [] (He.ga K "_law_leaf_count") fd__law_leaf_count) (d__law_kids : FnOk P w K mg base (L2.CX P w) 1 (He.ga K "_law_kids") fd__law_kids ["_law_plan_here"] (spD K [false] F__law_kids)) (kp__law_kids : PySem.W.keepIn K (.ref (He.ga K "_law_kids")) = true) (kp__law_leaf_count : PySem.W.keepIn K (.ref (He.ga K "_law_leaf_count")) = true) (b__law_leaf_count_1_ : BOk K fd__law_leaf_count ["_law_plan_here"] 1 [] [.arg 0]) (b__law_kids_1_ : BOk K fd__law_kids ["_law_plan_here"] 1 [] [.arg 0]) : ∀ n, FnOk P w K mg base (L2.CX P w) (2 + n) (He.ga K "_law_leaf_count") fd__law_leaf_count ["_law_plan_here"] (spD K [false] (F__law_leaf_count_n n))
  | 0 => fnOk_stuck rfl
  | n + 1 => by
    have d__law_leaf_count := t__law_leaf_count (lv := lv) fc F d__law_kids kp__law_kids kp__law_leaf_count b__law_leaf_count_1_ b__law_kids_1_ n
    have out : FnOk P w K mg base (L2.CX P w) (2 + n + 1) (He.ga K "_law_leaf_count") fd__law_leaf_count ["_law_plan_here"] (spD K [false] (F__law_leaf_count_n (n + 1))) := def_ok (N := ["_law_plan_here", "_law_kids_here", "_law_one"]) F (C8.fnScope_by (by decide)) rfl fun cdv A outer s H E W c => by
      have cx := c.toCCx
      have hN : List.Nodup (["_law_plan_here", "_law_kids_here", "_law_one"] : List Str) := by decide
      exact (dss_cons (ds_set 1 hN (dc cx d__law_kids (fc.gl' 12) kp__law_kids b__law_kids_1_ (dall_pos (dg_val (de_var 0) dg_nil))))
  (dss_one (ds_ret (de_ifExp (dt_cmp (op_eq0 (units1 cx)) ok_eq0 (de_var 1) (de_lst da_nil)) (de_own de_int) (de_callB (cr_sum rfl) ok_sum (fc.fr' 11) (da_cons (de_lc 3 [2] [("_law_one", 2)] rfl hN (di_any (de_var 1)) (fun s2 H2 C2 cl2 fp2 => (dg_name 2 hN)) (fun s2 H2 C2 cl2 fp2 => dts_nil) (fun s2 H2 C2 cl2 fp2 => (dc (cxB cx) d__law_leaf_count (fc.gl' 10) kp__law_leaf_count b__law_leaf_count_1_ (dall_pos (dg_val (de_var 2) dg_nil))))) da_nil))))))
    exact out
theorem t__law_plan_depth {lv : Nat} (fc : FC fa K mg) (F : FunD K "_law_plan_depth" "_law_plan_depth" (defArgs (topS 30)) (defBody (topS 30)) (defScope (topS 30)) [] [] (He.ga K "_law_plan_depth") fd__law_plan_depth) (d__law_kids : FnOk P w K mg base (L2.CX P w) 1 (He.ga K "_law_kids") fd__law_kids ["_law_plan_here"] (spD K [false] F__law_kids)) (kp__law_kids : PySem.W.keepIn K (.ref (He.ga K "_law_kids")) = true) (kp__law_plan_depth : PySem.W.keepIn K (.ref (He.ga K "_law_plan_depth")) = true) (b__law_kids_1_ : BOk K fd__law_kids ["_law_plan_here"] 1 [] [.arg 0]) (b__law_plan_depth_1_ : BOk K fd__law_plan_depth ["_law_plan_here"] 1 [] [.arg 0]) : ∀ n, FnOk P w K mg base (L2.CX P w) (2 + n) (He.ga K "_law_plan_depth") fd__law_plan_depth ["_law_plan_here"] (spD K [false] (F__law_plan_depth_n n))
  | 0 => fnOk_stuck rfl
  | n + 1 => by
    have d__law_plan_depth := t__law_plan_depth (lv := lv) fc F d__law_kids kp__law_kids kp__law_plan_depth b__law_kids_1_ b__law_plan_depth_1_ n
    have out : FnOk P w K mg base (L2.CX P w) (2 + n + 1) (He.ga K "_law_plan_depth") fd__law_plan_depth ["_law_plan_here"] (spD K [false] (F__law_plan_depth_n (n + 1))) := def_ok (N := ["_law_plan_here", "_law_one"]) F (C8.fnScope_by (by decide)) rfl fun cdv A outer s H E W c => by
      have cx := c.toCCx
      have hN : List.Nodup (["_law_plan_here", "_law_one"] : List Str) := by decide
      exact (dss_one (ds_ret (de_bin op_add4 ok_add de_int (de_maxD rfl (fc.fr' 14) (da_cons (de_lc 2 [1] [("_law_one", 1)] rfl hN (di_any (dc cx d__law_kids (fc.gl' 12) kp__law_kids b__law_kids_1_ (dall_pos (dg_val (de_var 0) dg_nil)))) (fun s2 H2 C2 cl2 fp2 => (dg_name 1 hN)) (fun s2 H2 C2 cl2 fp2 => dts_nil) (fun s2 H2 C2 cl2 fp2 => (dc (cxB cx) d__law_plan_depth (fc.gl' 13) kp__law_plan_depth b__law_plan_depth_1_ (dall_pos (dg_val (de_var 1) dg_nil))))) da_nil)))))
    exact out
theorem t__law_reading_count {lv : Nat} (fc : FC fa K mg) (F : FunD K "_law_reading_count" "_law_reading_count" (defArgs (topS 31)) (defBody (topS 31)) (defScope (topS 31)) [] [] (He.ga K "_law_reading_count") fd__law_reading_count) (d__law_kids : FnOk P w K mg base (L2.CX P w) 1 (He.ga K "_law_kids") fd__law_kids ["_law_plan_here"] (spD K [false] F__law_kids)) (kp__law_kids : PySem.W.keepIn K (.ref (He.ga K "_law_kids")) = true) (kp__law_reading_count : PySem.W.keepIn K (.ref (He.ga K "_law_reading_count")) = true) (b__law_kids_1_ : BOk K fd__law_kids ["_law_plan_here"] 1 [] [.arg 0]) (b__law_reading_count_1_ : BOk K fd__law_reading_count ["_law_plan_here"] 1 [] [.arg 0]) : ∀ n, FnOk P w K mg base (L2.CX P w) (2 + n) (He.ga K "_law_reading_count") fd__law_reading_count ["_law_plan_here"] (spD K [false] (F__law_reading_count_n n))
  | 0 => fnOk_stuck rfl
  | n + 1 => by
    have d__law_reading_count := t__law_reading_count (lv := lv) fc F d__law_kids kp__law_kids kp__law_reading_count b__law_kids_1_ b__law_reading_count_1_ n
    have out : FnOk P w K mg base (L2.CX P w) (2 + n + 1) (He.ga K "_law_reading_count") fd__law_reading_count ["_law_plan_here"] (spD K [false] (F__law_reading_count_n (n + 1))) := def_ok (N := ["_law_plan_here", "_law_found", "_law_one"]) F (C8.fnScope_by (by decide)) rfl fun cdv A outer s H E W c => by
      have cx := c.toCCx
      have hN : List.Nodup (["_law_plan_here", "_law_found", "_law_one"] : List Str) := by decide
      exact (dss_cons (ds_if (dt_cmp (op_eqF (unitsE cx)) ok_eqF (de_sub (units1 cx) (de_var 0) de_int) de_str) (dss_one (ds_ret (de_callB (cr_sum rfl) ok_sum (fc.fr' 11) (da_cons (de_lc 3 [2] [("_law_one", 2)] rfl hN (di_any (de_sub (units1 cx) (de_var 0) de_int)) (fun s2 H2 C2 cl2 fp2 => (dg_name 2 hN)) (fun s2 H2 C2 cl2 fp2 => dts_nil) (fun s2 H2 C2 cl2 fp2 => (dc (cxB cx) d__law_reading_count (fc.gl' 15) kp__law_reading_count b__law_reading_count_1_ (dall_pos (dg_val (de_var 2) dg_nil))))) da_nil)))) dss_nil)
  (dss_cons (ds_set 1 hN de_int)
  (dss_cons (ds_forI c.hp rfl (di_any (dc cx d__law_kids (fc.gl' 12) kp__law_kids b__law_kids_1_ (dall_pos (dg_val (de_var 0) dg_nil)))) (dg_name 2 hN) (dss_one (ds_set 1 hN (de_bin op_mul ok_mul (de_var 1) (dc cx d__law_reading_count (fc.gl' 15) kp__law_reading_count b__law_reading_count_1_ (dall_pos (dg_val (de_var 2) dg_nil)))))))
  (dss_one (ds_ret (de_mv 1))))))
    exact out
theorem t__law_good_plan (fc : FC fa K mg) (F : FunD K "_law_good_plan" "_law_good_plan" (defArgs (topS 34)) (defBody (topS 34)) (defScope (topS 34)) [] [] (He.ga K "_law_good_plan") fd__law_good_plan) (d__law_reading_count : FnOk P w K mg base (L2.CX P w) 10 (He.ga K "_law_reading_count") fd__law_reading_count ["_law_plan_here"] (spD K [false] F__law_reading_count)) (kp__law_reading_count : PySem.W.keepIn K (.ref (He.ga K "_law_reading_count")) = true) (d__law_leaf_count : FnOk P w K mg base (L2.CX P w) 10 (He.ga K "_law_leaf_count") fd__law_leaf_count ["_law_plan_here"] (spD K [false] F__law_leaf_count)) (kp__law_leaf_count : PySem.W.keepIn K (.ref (He.ga K "_law_leaf_count")) = true) (d__law_plan_depth : FnOk P w K mg base (L2.CX P w) 10 (He.ga K "_law_plan_depth") fd__law_plan_depth ["_law_plan_here"] (spD K [false] F__law_plan_depth)) (kp__law_plan_depth : PySem.W.keepIn K (.ref (He.ga K "_law_plan_depth")) = true) (d__law_good_form : FnOk P w K mg base (L2.CX P w) 11 (He.ga K "_law_good_form") fd__law_good_form ["_law_plan_here"] (spD K [false] F__law_good_form)) (kp__law_good_form : PySem.W.keepIn K (.ref (He.ga K "_law_good_form")) = true) (b__law_reading_count_1_ : BOk K fd__law_reading_count ["_law_plan_here"] 1 [] [.arg 0]) (b__law_leaf_count_1_ : BOk K fd__law_leaf_count ["_law_plan_here"] 1 [] [.arg 0]) (b__law_plan_depth_1_ : BOk K fd__law_plan_depth ["_law_plan_here"] 1 [] [.arg 0]) (b__law_good_form_1_ : BOk K fd__law_good_form ["_law_plan_here"] 1 [] [.arg 0]) : FnOk P w K mg base (L2.CX P w) 12 (He.ga K "_law_good_plan") fd__law_good_plan ["_law_plan_here"] (spD K [false] F__law_good_plan) :=
  def_ok (N := ["_law_plan_here"]) F (C8.fnScope_by (by decide)) rfl fun cdv A outer s H E W c => by
      have cx := c.toCCx
      have hN : List.Nodup (["_law_plan_here"] : List Str) := by decide
      exact (dss_cons (ds_if (DW.dt (dw_or (dt_not (dt_val (dc cx d__law_good_form (fc.gl' 5) kp__law_good_form b__law_good_form_1_ (dall_pos (dg_val (de_var 0) dg_nil))))) (dw_or1 (dt_cmp op_gt ok_gt (dc cx d__law_plan_depth (fc.gl' 13) kp__law_plan_depth b__law_plan_depth_1_ (dall_pos (dg_val (de_var 0) dg_nil))) de_int)))) (dss_one (ds_ret (de_own de_bl))) dss_nil)
  (dss_one (ds_ret (de_and (de_cmp op_le ok_le (dc cx d__law_leaf_count (fc.gl' 10) kp__law_leaf_count b__law_leaf_count_1_ (dall_pos (dg_val (de_var 0) dg_nil))) de_int) (de_bool1 (de_cmp op_le ok_le (dc cx d__law_reading_count (fc.gl' 15) kp__law_reading_count b__law_reading_count_1_ (dall_pos (dg_val (de_var 0) dg_nil))) de_int))))))
theorem t__law_draw (fc : FC fa K mg) (F : FunD K "_law_draw" "_law_draw" (defArgs (topS 23)) (defBody (topS 23)) (defScope (topS 23)) [] [] (He.ga K "_law_draw") fd__law_draw) : FnOk P w K mg base (L2.CX P w) 1 (He.ga K "_law_draw") fd__law_draw ["_law_flow_here", "_law_size"] (spD K [true, false] F__law_draw) :=
  def_ok (N := ["_law_flow_here", "_law_size", "_law_found", "_law_cell", "_law_here"]) F (C8.fnScope_by (by decide)) rfl fun cdv A outer s H E W c => by
      have cx := c.toCCx
      have hN : List.Nodup (["_law_flow_here", "_law_size", "_law_found", "_law_cell", "_law_here"] : List Str) := by decide
      exact (dss_cons (ds_if (dt_cmp op_gt ok_gt (de_sub (units1 cx) (de_var 0) de_int) de_int) (dss_cons (ds_set 2 hN (de_bin op_mod ok_mod (de_sub (units1 cx) (de_var 0) de_int) (de_var 1)))
  (dss_cons (ds_asg (de_bin op_fdivW ok_fdiv (de_sub (units1 cx) (de_var 0) de_int) (de_var 1)) (dg_sub (W := W) (units1 cx) (pl_var 0) de_int))
  (dss_one (ds_ret (de_mv 2))))) dss_nil)
  (dss_cons (ds_set 3 hN de_int)
  (dss_cons (ds_if (dt_cmp op_lt ok_lt (de_sub (units1 cx) (de_var 0) de_int) (de_callB cr_len ok_len (fc.fr' 7) (da_cons (de_sub (units1 cx) (de_var 0) de_int) da_nil))) (dss_one (ds_set 3 hN (de_sub (units1 cx) (de_sub (units1 cx) (de_var 0) de_int) (de_sub (units1 cx) (de_var 0) de_int)))) dss_nil)
  (dss_cons (ds_asg (de_bin op_add4 ok_add (de_sub (units1 cx) (de_var 0) de_int) de_int) (dg_sub (W := W) (units1 cx) (pl_var 0) de_int))
  (dss_cons (ds_if (dt_cmp op_ge ok_ge (de_callB cr_abs ok_abs (fc.fr' 16) (da_cons (de_var 3) da_nil)) (de_bin op_pow ok_pow de_int de_int)) (dss_cons (ds_asg (de_bin op_fdivW ok_fdiv (de_callB cr_abs ok_abs (fc.fr' 16) (da_cons (de_var 3) da_nil)) (de_var 1)) (dg_sub (W := W) (units1 cx) (pl_var 0) de_int))
  (dss_one (ds_ret (de_bin op_mod ok_mod (de_callB cr_abs ok_abs (fc.fr' 16) (da_cons (de_var 3) da_nil)) (de_var 1))))) dss_nil)
  (dss_cons (ds_set 4 hN (de_bin op_add4 ok_add (de_bin op_add4 ok_add (de_bin op_pow ok_pow (de_sub (units1 cx) (de_var 0) de_int) de_int) (de_bin op_mul ok_mul (de_sub (units1 cx) (de_var 0) de_int) de_int)) (de_bin op_mul ok_mul (de_sub (units1 cx) (de_var 0) de_int) de_int)))
  (dss_cons (ds_set 4 hN (de_bin op_mod ok_mod (de_bin op_add4 ok_add (de_var 4) (de_bin op_mul ok_mul (de_bin op_mod ok_mod (de_var 3) de_int) de_int)) de_int))
  (dss_cons (ds_asg (de_chk (de_var 4)) (dg_sub (W := W) (units1 cx) (pl_var 0) de_int))
  (dss_one (ds_ret (de_bin op_mod ok_mod (de_bin op_add4 ok_add (de_bin op_fdivW ok_fdiv (de_var 4) de_int) (de_bin op_mul ok_mul (de_bin op_mod ok_mod (de_var 4) de_int) de_int)) (de_var 1))))))))))))
theorem t__law_leaf (fc : FC fa K mg) (F : FunD K "_law_leaf" "_law_leaf" (defArgs (topS 26)) (defBody (topS 26)) (defScope (topS 26)) [] [] (He.ga K "_law_leaf") fd__law_leaf) (d__law_draw : FnOk P w K mg base (L2.CX P w) 1 (He.ga K "_law_draw") fd__law_draw ["_law_flow_here", "_law_size"] (spD K [true, false] F__law_draw)) (kp__law_draw : PySem.W.keepIn K (.ref (He.ga K "_law_draw")) = true) (b__law_draw_2_ : BOk K fd__law_draw ["_law_flow_here", "_law_size"] 2 [] [.arg 0, .arg 1]) : FnOk P w K mg base (L2.CX P w) 2 (He.ga K "_law_leaf") fd__law_leaf ["_law_flow_here", "_law_far"] (spD K [true, false] F__law_leaf) :=
  def_ok (N := ["_law_flow_here", "_law_far", "_law_low", "_law_hush"]) F (C8.fnScope_by (by decide)) rfl fun cdv A outer s H E W c => by
      have cx := c.toCCx
      have hN : List.Nodup (["_law_flow_here", "_law_far", "_law_low", "_law_hush"] : List Str) := by decide
      exact (dss_cons (ds_if (dt_cmp (op_eqF (unitsE cx)) ok_eqF (dc cx d__law_draw (fc.gl' 17) kp__law_draw b__law_draw_2_ (dall_pos (dg_slot 0 (dg_val de_int dg_nil)))) de_int) (dss_cons (ds_set 2 hN (dc cx d__law_draw (fc.gl' 17) kp__law_draw b__law_draw_2_ (dall_pos (dg_slot 0 (dg_val (de_var 1) dg_nil)))))
  (dss_one (ds_ret (de_tup (da_cons de_str (da_cons (de_fz 2) (da_cons (de_bin op_add4 ok_add (de_chk (de_var 2)) (dc cx d__law_draw (fc.gl' 17) kp__law_draw b__law_draw_2_ (dall_pos (dg_slot 0 (dg_val (de_var 1) dg_nil)))) (hp := fun _ _ h => by cases h)) da_nil) (hp := fun _ _ h => by cases h)) (hp := fun _ _ h => by cases h)))))) dss_nil)
  (dss_cons (ds_set 2 hN (de_bin op_add4 ok_add de_int (dc cx d__law_draw (fc.gl' 17) kp__law_draw b__law_draw_2_ (dall_pos (dg_slot 0 (dg_val (de_var 1) dg_nil)))) (hp := fun _ _ h => by cases h)))
  (dss_cons (ds_set 3 hN (de_sub (units1 cx) (de_lst (da_cons de_int (da_cons de_int (da_cons de_non (da_cons (de_bin op_add4 ok_add de_int (dc cx d__law_draw (fc.gl' 17) kp__law_draw b__law_draw_2_ (dall_pos (dg_slot 0 (dg_val (de_var 1) dg_nil)))) (hp := fun _ _ h => by cases h)) da_nil) (hp := fun _ _ h => by cases h)) (hp := fun _ _ h => by cases h)) (hp := fun _ _ h => by cases h))) (dc cx d__law_draw (fc.gl' 17) kp__law_draw b__law_draw_2_ (dall_pos (dg_slot 0 (dg_val de_int dg_nil)))) (hp := fun _ _ h => by cases h)))
  (dss_one (ds_ret (de_tup (da_cons de_str (da_cons (de_fz 2) (da_cons (de_bin op_add4 ok_add (de_chk (de_var 2)) (dc cx d__law_draw (fc.gl' 17) kp__law_draw b__law_draw_2_ (dall_pos (dg_slot 0 (dg_val (de_var 1) dg_nil)))) (hp := fun _ _ h => by cases h)) (da_cons (de_chk (de_var 3)) da_nil)) (hp := fun _ _ h => by cases h)) (hp := fun _ _ h => by cases h))))))))
theorem t__law_plan {lv : Nat} (fc : FC fa K mg) (F : FunD K "_law_plan" "_law_plan" (defArgs (topS 27)) (defBody (topS 27)) (defScope (topS 27)) [] [] (He.ga K "_law_plan") fd__law_plan) (d__law_draw : FnOk P w K mg base (L2.CX P w) 1 (He.ga K "_law_draw") fd__law_draw ["_law_flow_here", "_law_size"] (spD K [true, false] F__law_draw)) (kp__law_draw : PySem.W.keepIn K (.ref (He.ga K "_law_draw")) = true) (d__law_leaf : FnOk P w K mg base (L2.CX P w) 2 (He.ga K "_law_leaf") fd__law_leaf ["_law_flow_here", "_law_far"] (spD K [true, false] F__law_leaf)) (kp__law_leaf : PySem.W.keepIn K (.ref (He.ga K "_law_leaf")) = true) (kp__law_plan : PySem.W.keepIn K (.ref (He.ga K "_law_plan")) = true) (b__law_plan_4_ : BOk K fd__law_plan ["_law_flow_here", "_law_bottom", "_law_words", "_law_far"] 4 [] [.arg 0, .arg 1, .arg 2, .arg 3]) (b__law_draw_2_ : BOk K fd__law_draw ["_law_flow_here", "_law_size"] 2 [] [.arg 0, .arg 1]) (b__law_leaf_2_ : BOk K fd__law_leaf ["_law_flow_here", "_law_far"] 2 [] [.arg 0, .arg 1]) : ∀ n, FnOk P w K mg base (L2.CX P w) (3 + n) (He.ga K "_law_plan") fd__law_plan ["_law_flow_here", "_law_bottom", "_law_words", "_law_far"] (spD K [true, false, false, false] (F__law_plan_n n))
  | 0 => fnOk_stuck rfl
  | n + 1 => by
    have d__law_plan := t__law_plan (lv := lv) fc F d__law_draw kp__law_draw d__law_leaf kp__law_leaf kp__law_plan b__law_plan_4_ b__law_draw_2_ b__law_leaf_2_ n
    have out : FnOk P w K mg base (L2.CX P w) (3 + n + 1) (He.ga K "_law_plan") fd__law_plan ["_law_flow_here", "_law_bottom", "_law_words", "_law_far"] (spD K [true, false, false, false] (F__law_plan_n (n + 1))) := def_ok (N := ["_law_flow_here", "_law_bottom", "_law_words", "_law_far", "_law_kind", "_law_word", "_law_many", "_law_k"]) F (C8.fnScope_by (by decide)) rfl fun cdv A outer s H E W c => by
      have cx := c.toCCx
      have hN : List.Nodup (["_law_flow_here", "_law_bottom", "_law_words", "_law_far", "_law_kind", "_law_word", "_law_many", "_law_k"] : List Str) := by decide
      exact (dss_cons (ds_set 4 hN (dc cx d__law_draw (fc.gl' 17) kp__law_draw b__law_draw_2_ (dall_pos (dg_slot 0 (dg_val (de_bin op_add4 ok_add de_int (de_callB cr_len ok_len (fc.fr' 7) (da_cons (de_var 2) da_nil))) dg_nil)))))
  (dss_cons (ds_if (DW.dt (dw_or (dt_cmp op_lt ok_lt (de_var 1) de_int) (dw_or1 (dt_cmp op_lt ok_lt (de_var 4) de_int)))) (dss_one (ds_ret (dc cx d__law_leaf (fc.gl' 20) kp__law_leaf b__law_leaf_2_ (dall_pos (dg_slot 0 (dg_val (de_var 3) dg_nil)))))) dss_nil)
  (dss_cons (ds_set 5 hN (de_sub (units1 cx) (de_var 2) (de_bin op_sub ok_sub (de_var 4) de_int)))
  (dss_cons (ds_if (dt_cmp (op_eqF (unitsE cx)) ok_eqF (de_var 5) de_str) (dss_one (ds_ret (de_tup (da_cons (de_chk (de_var 5)) (da_cons (dc cx d__law_draw (fc.gl' 17) kp__law_draw b__law_draw_2_ (dall_pos (dg_slot 0 (dg_val (de_bin op_mul ok_mul de_int (de_var 3)) dg_nil)))) (da_cons (dc cx d__law_plan (fc.gl' 19) kp__law_plan b__law_plan_4_ (dall_pos (dg_slot 0 (dg_val (de_bin op_sub ok_sub (de_var 1) de_int) (dg_val (de_var 2) (dg_val (de_var 3) dg_nil)))))) da_nil) (hp := fun _ _ h => by cases h)) (hp := fun _ _ h => by cases h))))) dss_nil)
  (dss_cons (ds_set 6 hN (de_bin op_add4 ok_add de_int (dc cx d__law_draw (fc.gl' 17) kp__law_draw b__law_draw_2_ (dall_pos (dg_slot 0 (dg_val de_int dg_nil)))) (hp := fun _ _ h => by cases h)))
  (dss_one (ds_ret (de_tup (da_cons (de_chk (de_var 5)) (da_cons (de_lcM 8 [7] [("_law_k", 7)] rfl hN (di_rng1 rfl (fc.fr' 18) (da_cons (de_var 6) da_nil)) (fun s2 H2 C2 cl2 fp2 => (dg_name 7 hN)) (fun s2 H2 C2 cl2 fp2 => dts_nil) (fun s2 H2 C2 cl2 fp2 => (dc (cxB cx) d__law_plan (fc.gl' 19) kp__law_plan b__law_plan_4_ (dall_pos (dg_slot 0 (dg_val (de_bin op_sub ok_sub (de_var 1) de_int) (dg_val (de_var 2) (dg_val (de_var 3) dg_nil)))))))) da_nil) (hp := fun _ _ h => by cases h))))))))))
    exact out
theorem t__law_plan_copy {lv : Nat} (fc : FC fa K mg) (F : FunD K "_law_plan_copy" "_law_plan_copy" (defArgs (topS 36)) (defBody (topS 36)) (defScope (topS 36)) [] [] (He.ga K "_law_plan_copy") fd__law_plan_copy) (kp__law_plan_copy : PySem.W.keepIn K (.ref (He.ga K "_law_plan_copy")) = true) (b__law_plan_copy_1_ : BOk K fd__law_plan_copy ["_law_plan_here"] 1 [] [.arg 0]) : ∀ n, FnOk P w K mg base (L2.CX P w) (1 + n) (He.ga K "_law_plan_copy") fd__law_plan_copy ["_law_plan_here"] (spD K [false] (F__law_plan_copy_n n))
  | 0 => fnOk_stuck rfl
  | n + 1 => by
    have d__law_plan_copy := t__law_plan_copy (lv := lv) fc F kp__law_plan_copy b__law_plan_copy_1_ n
    have out : FnOk P w K mg base (L2.CX P w) (1 + n + 1) (He.ga K "_law_plan_copy") fd__law_plan_copy ["_law_plan_here"] (spD K [false] (F__law_plan_copy_n (n + 1))) := def_ok (N := ["_law_plan_here", "_law_one"]) F (C8.fnScope_by (by decide)) rfl fun cdv A outer s H E W c => by
      have cx := c.toCCx
      have hN : List.Nodup (["_law_plan_here", "_law_one"] : List Str) := by decide
      exact (dss_cons (ds_if (dt_cmp (op_inAny (units1 cx)) ok_inAny (de_sub (units1 cx) (de_var 0) de_int) (de_lst (da_cons de_str (da_cons de_str da_nil)))) (dss_one (ds_ret (de_mv 0))) dss_nil)
  (dss_cons (ds_if (dt_cmp (op_eqF (unitsE cx)) ok_eqF (de_sub (units1 cx) (de_var 0) de_int) de_str) (dss_one (ds_ret (de_bin op_add4 ok_add (de_slice (de_var 0) do_none (do_some de_int)) (de_frE (de_tup (da_cons (dc cx d__law_plan_copy (fc.gl' 21) kp__law_plan_copy b__law_plan_copy_1_ (dall_pos (dg_val (de_sub (units1 cx) (de_var 0) de_int) dg_nil))) da_nil))) (hp := fun _ _ h => by cases h)))) dss_nil)
  (dss_one (ds_ret (de_tup (da_cons (de_chk (de_sub (units1 cx) (de_var 0) de_int)) (da_cons (de_lc 2 [1] [("_law_one", 1)] rfl hN (di_any (de_sub (units1 cx) (de_var 0) de_int)) (fun s2 H2 C2 cl2 fp2 => (dg_name 1 hN)) (fun s2 H2 C2 cl2 fp2 => dts_nil) (fun s2 H2 C2 cl2 fp2 => (dc (cxB cx) d__law_plan_copy (fc.gl' 21) kp__law_plan_copy b__law_plan_copy_1_ (dall_pos (dg_val (de_var 1) dg_nil))))) da_nil)))))))
    exact out
theorem t__law_same {lv : Nat} (fc : FC fa K mg) (h_tab_list : isiB K (.type "list") tab_list = true) (h_tab_tuple : isiB K (.type "tuple") tab_tuple = true) (h_tab_dict : isiB K (.type "dict") tab_dict = true) (h_tab_str : isiB K (.type "str") tab_str = true) (h_tab_int : isiB K (.type "int") tab_int = true) (h_tab_bool : isiB K (.type "bool") tab_bool = true) (F : FunD K "_law_same" "_law_same" (defArgs (topS 24)) (defBody (topS 24)) (defScope (topS 24)) [] [] (He.ga K "_law_same") fd__law_same) (kp__law_same : PySem.W.keepIn K (.ref (He.ga K "_law_same")) = true) (b__law_same_2_ : BOk K fd__law_same ["_law_found", "_law_due"] 2 [] [.arg 0, .arg 1]) : ∀ n, FnOk P w K mg base (L2.CX P w) (1 + n) (He.ga K "_law_same") fd__law_same ["_law_found", "_law_due"] (spD K [false, false] (F__law_same_n n))
  | 0 => fnOk_stuck rfl
  | n + 1 => by
    have d__law_same := t__law_same (lv := lv) fc h_tab_list h_tab_tuple h_tab_dict h_tab_str h_tab_int h_tab_bool F kp__law_same b__law_same_2_ n
    have out : FnOk P w K mg base (L2.CX P w) (1 + n + 1) (He.ga K "_law_same") fd__law_same ["_law_found", "_law_due"] (spD K [false, false] (F__law_same_n (n + 1))) := def_ok (N := ["_law_found", "_law_due", "_law_key", "_law_k"]) F (C8.fnScope_by (by decide)) rfl fun cdv A outer s H E W c => by
      have cx := c.toCCx
      have hN : List.Nodup (["_law_found", "_law_due", "_law_key", "_law_k"] : List Str) := by decide
      exact (dss_cons (ds_if (dt_val (de_isiB "bool" tab_bool (fc.fr' 1) (fc.fr' 2) (de_var 1) h_tab_bool)) (dss_one (ds_ret (de_and (de_isiB "bool" tab_bool (fc.fr' 1) (fc.fr' 2) (de_var 0) h_tab_bool) (de_bool1 (de_cmp (op_eqF (unitsE cx)) ok_eqF (de_var 0) (de_var 1)))))) dss_nil)
  (dss_cons (ds_if (dt_cmp op_isN ok_isN (de_var 1) de_non) (dss_one (ds_ret (de_cmp op_isN ok_isN (de_var 0) de_non))) dss_nil)
  (dss_cons (ds_if (dt_val (de_isiB "int" tab_int (fc.fr' 1) (fc.fr' 3) (de_var 1) h_tab_int)) (dss_cons (ds_if (DW.dt (dw_or (dt_val (de_isiB "bool" tab_bool (fc.fr' 1) (fc.fr' 2) (de_var 0) h_tab_bool)) (dw_or1 (dt_not (dt_val (de_isiB "int" tab_int (fc.fr' 1) (fc.fr' 3) (de_var 0) h_tab_int)))))) (dss_one (ds_ret (de_own de_bl))) dss_nil)
  (dss_one (ds_ret (de_cmp (op_eqF (unitsE cx)) ok_eqF (de_var 0) (de_var 1))))) dss_nil)
  (dss_cons (ds_if (dt_val (de_isiB "str" tab_str (fc.fr' 1) (fc.fr' 24) (de_var 1) h_tab_str)) (dss_one (ds_ret (de_and (de_isiB "str" tab_str (fc.fr' 1) (fc.fr' 24) (de_var 0) h_tab_str) (de_bool1 (de_cmp (op_eqF (unitsE cx)) ok_eqF (de_var 0) (de_var 1)))))) dss_nil)
  (dss_cons (ds_if (dt_val (de_isiB "dict" tab_dict (fc.fr' 1) (fc.fr' 23) (de_var 1) h_tab_dict)) (dss_cons (ds_if (DW.dt (dw_or (dt_not (dt_val (de_isiB "dict" tab_dict (fc.fr' 1) (fc.fr' 23) (de_var 0) h_tab_dict))) (dw_or1 (dt_cmp (op_neF (unitsE cx)) ok_neF (de_callB cr_len ok_len (fc.fr' 7) (da_cons (de_var 0) da_nil)) (de_callB cr_len ok_len (fc.fr' 7) (da_cons (de_var 1) da_nil)))))) (dss_one (ds_ret (de_own de_bl))) dss_nil)
  (dss_cons (ds_forI c.hp rfl (di_any (de_var 1)) (dg_name 2 hN) (dss_one (ds_if (DW.dt (dw_or (dt_cmp (op_notInAny (units1 cx)) ok_notInAny (de_var 2) (de_var 0)) (dw_or1 (dt_not (dt_val (dc cx d__law_same (fc.gl' 22) kp__law_same b__law_same_2_ (dall_pos (dg_val (de_sub (units1 cx) (de_var 0) (de_var 2)) (dg_val (de_sub (units1 cx) (de_var 1) (de_var 2)) dg_nil))))))))) (dss_one (ds_ret (de_own de_bl))) dss_nil)))
  (dss_one (ds_ret (de_own de_bl))))) dss_nil)
  (dss_cons (ds_if (DW.dt (dw_and (dt_val (de_isiB "tuple" tab_tuple (fc.fr' 1) (fc.fr' 9) (de_var 1) h_tab_tuple)) (dw_and1 (dt_not (dt_val (de_isiB "tuple" tab_tuple (fc.fr' 1) (fc.fr' 9) (de_var 0) h_tab_tuple)))))) (dss_one (ds_ret (de_own de_bl))) dss_nil)
  (dss_cons (ds_if (DW.dt (dw_and (dt_val (de_isiB "list" tab_list (fc.fr' 1) (fc.fr' 0) (de_var 1) h_tab_list)) (dw_and1 (dt_not (dt_val (de_isiB "list" tab_list (fc.fr' 1) (fc.fr' 0) (de_var 0) h_tab_list)))))) (dss_one (ds_ret (de_own de_bl))) dss_nil)
  (dss_cons (ds_if (dt_cmp (op_neF (unitsE cx)) ok_neF (de_callB cr_len ok_len (fc.fr' 7) (da_cons (de_var 0) da_nil)) (de_callB cr_len ok_len (fc.fr' 7) (da_cons (de_var 1) da_nil))) (dss_one (ds_ret (de_own de_bl))) dss_nil)
  (dss_one (ds_ret (de_callB (cr_all rfl) ok_all (fc.fr' 6) (da_cons (de_lc 4 [3] [("_law_k", 3)] rfl hN (di_rng1 rfl (fc.fr' 18) (da_cons (de_callB cr_len ok_len (fc.fr' 7) (da_cons (de_var 1) da_nil)) da_nil)) (fun s2 H2 C2 cl2 fp2 => (dg_name 3 hN)) (fun s2 H2 C2 cl2 fp2 => dts_nil) (fun s2 H2 C2 cl2 fp2 => (dc (cxB cx) d__law_same (fc.gl' 22) kp__law_same b__law_same_2_ (dall_pos (dg_val (de_sub (units1 (cxB cx)) (de_var 0) (de_var 3)) (dg_val (de_sub (units1 (cxB cx)) (de_var 1) (de_var 3)) dg_nil)))))) da_nil))))))))))))
    exact out
theorem t__law_ways {lv : Nat} (fc : FC fa K mg) (F : FunD K "_law_ways" "_law_ways" (defArgs (topS 35)) (defBody (topS 35)) (defScope (topS 35)) [] [] (He.ga K "_law_ways") fd__law_ways) (kp__law_ways : PySem.W.keepIn K (.ref (He.ga K "_law_ways")) = true) (b__law_ways_1_ : BOk K fd__law_ways ["_law_plan_here"] 1 [] [.arg 0]) : ∀ n, FnOk P w K mg base (L2.CX P w) (1 + n) (He.ga K "_law_ways") fd__law_ways ["_law_plan_here"] (spD K [false] (F__law_ways_n n))
  | 0 => fnOk_stuck rfl
  | n + 1 => by
    have d__law_ways := t__law_ways (lv := lv) fc F kp__law_ways b__law_ways_1_ n
    have out : FnOk P w K mg base (L2.CX P w) (1 + n + 1) (He.ga K "_law_ways") fd__law_ways ["_law_plan_here"] (spD K [false] (F__law_ways_n (n + 1))) := def_ok (N := ["_law_plan_here", "_law_found", "_law_one", "_law_rows", "_law_kid", "_law_wider", "_law_row"]) F (C8.fnScope_by (by decide)) rfl fun cdv A outer s H E W c => by
      have cx := c.toCCx
      have hN : List.Nodup (["_law_plan_here", "_law_found", "_law_one", "_law_rows", "_law_kid", "_law_wider", "_law_row"] : List Str) := by decide
      exact (dss_cons (ds_if (dt_cmp (op_eqF (unitsE cx)) ok_eqF (de_sub (units1 cx) (de_var 0) de_int) de_str) (dss_cons (ds_set 1 hN (de_lst da_nil))
  (dss_cons (ds_forI c.hp rfl (di_any (de_sub (units1 cx) (de_var 0) de_int)) (dg_name 2 hN) (dss_one (ds_set 1 hN (de_bin op_add4 ok_add (de_var 1) (dc cx d__law_ways (fc.gl' 25) kp__law_ways b__law_ways_1_ (dall_pos (dg_val (de_var 2) dg_nil)))))))
  (dss_one (ds_ret (de_mv 1))))) dss_nil)
  (dss_cons (ds_if (dt_cmp (op_eqF (unitsE cx)) ok_eqF (de_sub (units1 cx) (de_var 0) de_int) de_str) (dss_one (ds_ret (de_lcM 7 [2] [("_law_one", 2)] rfl hN (di_any (dc cx d__law_ways (fc.gl' 25) kp__law_ways b__law_ways_1_ (dall_pos (dg_val (de_sub (units1 cx) (de_var 0) de_int) dg_nil)))) (fun s2 H2 C2 cl2 fp2 => (dg_name 2 hN)) (fun s2 H2 C2 cl2 fp2 => dts_nil) (fun s2 H2 C2 cl2 fp2 => (de_frE (de_bin op_add4 ok_add (de_slice (de_var 0) do_none (do_some de_int)) (de_tup (da_cons (de_chk (de_var 2)) da_nil)))))))) dss_nil)
  (dss_cons (ds_if (dt_cmp (op_inAny (units1 cx)) ok_inAny (de_sub (units1 cx) (de_var 0) de_int) (de_lst (da_cons de_str (da_cons de_str da_nil)))) (dss_one (ds_ret (de_lst (da_cons (de_chk (de_var 0)) da_nil)))) dss_nil)
  (dss_cons (ds_set 3 hN (de_frE (de_lst (da_cons (de_lst da_nil) da_nil))))
  (dss_cons (ds_forI c.hp rfl (di_any (de_sub (units1 cx) (de_var 0) de_int)) (dg_name 4 hN) (dss_cons (ds_set 5 hN (de_frE (de_lst da_nil)))
  (dss_cons (ds_forI c.hp rfl (di_any (de_var 3)) (dg_name 6 hN) (dss_one (ds_set 5 hN (de_frE (de_bin op_add4 ok_add (de_chk (de_var 5)) (de_lcM 7 [2] [("_law_one", 2)] rfl hN (di_any (dc cx d__law_ways (fc.gl' 25) kp__law_ways b__law_ways_1_ (dall_pos (dg_val (de_var 4) dg_nil)))) (fun s2 H2 C2 cl2 fp2 => (dg_name 2 hN)) (fun s2 H2 C2 cl2 fp2 => dts_nil) (fun s2 H2 C2 cl2 fp2 => (de_frE (de_bin op_add4 ok_add (de_var 6) (de_lst (da_cons (de_chk (de_var 2)) da_nil)))))) (hp := fun _ _ h => by cases h))))))
  (dss_one (ds_set 3 hN (de_frE (de_own (de_fz 5))))))))
  (dss_one (ds_ret (de_lcM 7 [6] [("_law_row", 6)] rfl hN (di_any (de_fz 3)) (fun s2 H2 C2 cl2 fp2 => (dg_name 6 hN)) (fun s2 H2 C2 cl2 fp2 => dts_nil) (fun s2 H2 C2 cl2 fp2 => (de_frE (de_tup (da_cons (de_chk (de_sub (units1 (cxB cx)) (de_var 0) de_int)) (da_cons (de_chk (de_var 6)) da_nil)))))))))))))
    exact out
theorem t__law_wreck {lv : Nat} (fc : FC fa K mg) (F : FunD K "_law_wreck" "_law_wreck" (defArgs (topS 37)) (defBody (topS 37)) (defScope (topS 37)) [] [] (He.ga K "_law_wreck") fd__law_wreck) (d__law_kids : FnOk P w K mg base (L2.CX P w) 1 (He.ga K "_law_kids") fd__law_kids ["_law_plan_here"] (spD K [false] F__law_kids)) (kp__law_kids : PySem.W.keepIn K (.ref (He.ga K "_law_kids")) = true) (kp__law_wreck : PySem.W.keepIn K (.ref (He.ga K "_law_wreck")) = true) (b__law_kids_1_ : BOk K fd__law_kids ["_law_plan_here"] 1 [] [.arg 0]) (b__law_wreck_1_ : BOk K fd__law_wreck ["_law_plan_here"] 1 [] [.arg 0]) : ∀ n, FnOk P w K mg base (L2.CX P w) (2 + n) (He.ga K "_law_wreck") fd__law_wreck ["_law_plan_here"] (spD K [true] (F__law_wreck_n n))
  | 0 => fnOk_stuck rfl
  | n + 1 => by
    have d__law_wreck := t__law_wreck (lv := lv) fc F d__law_kids kp__law_kids kp__law_wreck b__law_kids_1_ b__law_wreck_1_ n
    have out : FnOk P w K mg base (L2.CX P w) (2 + n + 1) (He.ga K "_law_wreck") fd__law_wreck ["_law_plan_here"] (spD K [true] (F__law_wreck_n (n + 1))) := def_ok (N := ["_law_plan_here", "_law_one"]) F (C8.fnScope_by (by decide)) rfl fun cdv A outer s H E W c => by
      have cx := c.toCCx
      have hN : List.Nodup (["_law_plan_here", "_law_one"] : List Str) := by decide
      exact (dss_cons (ds_wrk c.hp rfl hN cx kids_told d__law_kids (fc.gl' 12) kp__law_kids b__law_kids_1_ d__law_wreck (fc.gl' 26) kp__law_wreck b__law_wreck_1_)
  (dss_one (ds_if (dt_cmp (op_notInAny (units1 cx)) ok_notInAny (de_sub (units1 cx) (de_var 0) de_int) (de_lst (da_cons de_str (da_cons de_str (da_cons de_str da_nil))))) (dss_one (ds_expr (de_append (pl_ix (W := W) (units1 cx) (pl_var 0) de_int) (de_tup (da_cons de_str (da_cons de_int (da_cons de_int da_nil))))))) dss_nil)))
    exact out
theorem t_anew {lv : Nat} (fc : FC fa K mg) (F : FunD K "anew" "anew" (defArgs (topS 19)) (defBody (topS 19)) (defScope (topS 19)) [] [] (He.ga K "anew") fd_anew) (kp_anew : PySem.W.keepIn K (.ref (He.ga K "anew")) = true) (b_anew_1_ : BOk K fd_anew ["plan"] 1 [] [.arg 0]) : ∀ n, FnOk P w K mg base (L2.CX P w) (1 + n) (He.ga K "anew") fd_anew ["plan"] (spD K [false] (F_anew_n n))
  | 0 => fnOk_stuck rfl
  | n + 1 => by
    have d_anew := t_anew (lv := lv) fc F kp_anew b_anew_1_ n
    have out : FnOk P w K mg base (L2.CX P w) (1 + n + 1) (He.ga K "anew") fd_anew ["plan"] (spD K [false] (F_anew_n (n + 1))) := def_ok (N := ["plan", "word", "things", "part"]) F (C8.fnScope_by (by decide)) rfl fun cdv A outer s H E W c => by
      have cx := c.toCCx
      have hN : List.Nodup (["plan", "word", "things", "part"] : List Str) := by decide
      exact (dss_cons (ds_asg (de_var 0) (dg_star rfl (dgs_cons (dg_name 1 hN) (dgs_star1 (dg_name 2 hN)))))
  (dss_cons (ds_if (dt_cmp (op_eqF (unitsE cx)) ok_eqF (de_var 1) de_str) (dss_one (ds_ret (de_tup (da_cons (de_chk (de_var 1)) (da_cons (de_chk (de_sub (units1 cx) (de_var 2) de_int)) (da_cons (dc cx d_anew (fc.gl' 27) kp_anew b_anew_1_ (dall_pos (dg_val (de_sub (units1 cx) (de_var 2) de_int) dg_nil))) da_nil)))))) dss_nil)
  (dss_one (ds_ret (de_ifExp (dt_cmp (op_inAny (units1 cx)) ok_inAny (de_var 1) (de_tup (da_cons de_str (da_cons de_str da_nil)))) (de_own (de_chk (de_var 0))) (de_tup (da_cons (de_chk (de_var 1)) (da_cons (de_lc 4 [3] [("part", 3)] rfl hN (di_any (de_sub (units1 cx) (de_var 2) de_int)) (fun s2 H2 C2 cl2 fp2 => (dg_name 3 hN)) (fun s2 H2 C2 cl2 fp2 => dts_nil) (fun s2 H2 C2 cl2 fp2 => (dc (cxB cx) d_anew (fc.gl' 27) kp_anew b_anew_1_ (dall_pos (dg_val (de_var 3) dg_nil))))) da_nil))))))))
    exact out
theorem t_parts_of (fc : FC fa K mg) (F : FunD K "parts_of" "parts_of" (defArgs (topS 14)) (defBody (topS 14)) (defScope (topS 14)) [] [] (He.ga K "parts_of") fd_parts_of) : FnOk P w K mg base (L2.CX P w) 1 (He.ga K "parts_of") fd_parts_of ["plan"] (spD K [false] F_parts_of) :=
  def_ok (N := ["plan"]) F (C8.fnScope_by (by decide)) rfl fun cdv A outer s H E W c => by
      have cx := c.toCCx
      have hN : List.Nodup (["plan"] : List Str) := by decide
      exact (dss_cons (ds_if (dt_cmp (op_inAny (units1 cx)) ok_inAny (de_sub (units1 cx) (de_var 0) de_int) (de_tup (da_cons de_str (da_cons de_str da_nil)))) (dss_one (ds_ret (de_lst da_nil))) dss_nil)
  (dss_one (ds_ret (de_ifExp (dt_cmp (op_eqF (unitsE cx)) ok_eqF (de_sub (units1 cx) (de_var 0) de_int) de_str) (de_lst (da_cons (de_chk (de_sub (units1 cx) (de_var 0) de_int)) da_nil)) (de_own (de_chk (de_sub (units1 cx) (de_var 0) de_int)))))))
theorem t_choices {lv : Nat} (fc : FC fa K mg) (F : FunD K "choices" "choices" (defArgs (topS 16)) (defBody (topS 16)) (defScope (topS 16)) [] [] (He.ga K "choices") fd_choices) (d_parts_of : FnOk P w K mg base (L2.CX P w) 1 (He.ga K "parts_of") fd_parts_of ["plan"] (spD K [false] F_parts_of)) (kp_parts_of : PySem.W.keepIn K (.ref (He.ga K "parts_of")) = true) (kp_choices : PySem.W.keepIn K (.ref (He.ga K "choices")) = true) (b_parts_of_1_ : BOk K fd_parts_of ["plan"] 1 [] [.arg 0]) (b_choices_1_ : BOk K fd_choices ["plan"] 1 [] [.arg 0]) : ∀ n, FnOk P w K mg base (L2.CX P w) (2 + n) (He.ga K "choices") fd_choices ["plan"] (spD K [false] (F_choices_n n))
  | 0 => fnOk_stuck rfl
  | n + 1 => by
    have d_choices := t_choices (lv := lv) fc F d_parts_of kp_parts_of kp_choices b_parts_of_1_ b_choices_1_ n
    have out : FnOk P w K mg base (L2.CX P w) (2 + n + 1) (He.ga K "choices") fd_choices ["plan"] (spD K [false] (F_choices_n (n + 1))) := def_ok (N := ["plan", "found", "part"]) F (C8.fnScope_by (by decide)) rfl fun cdv A outer s H E W c => by
      have cx := c.toCCx
      have hN : List.Nodup (["plan", "found", "part"] : List Str) := by decide
      exact (dss_cons (ds_if (dt_cmp (op_eqF (unitsE cx)) ok_eqF (de_sub (units1 cx) (de_var 0) de_int) de_str) (dss_one (ds_ret (de_callB (cr_sum rfl) ok_sum (fc.fr' 11) (da_cons (de_lc 3 [2] [("part", 2)] rfl hN (di_any (de_sub (units1 cx) (de_var 0) de_int)) (fun s2 H2 C2 cl2 fp2 => (dg_name 2 hN)) (fun s2 H2 C2 cl2 fp2 => dts_nil) (fun s2 H2 C2 cl2 fp2 => (dc (cxB cx) d_choices (fc.gl' 29) kp_choices b_choices_1_ (dall_pos (dg_val (de_var 2) dg_nil))))) da_nil)))) dss_nil)
  (dss_cons (ds_set 1 hN de_int)
  (dss_cons (ds_forI c.hp rfl (di_any (dc cx d_parts_of (fc.gl' 28) kp_parts_of b_parts_of_1_ (dall_pos (dg_val (de_var 0) dg_nil)))) (dg_name 2 hN) (dss_one (ds_set 1 hN (de_bin op_mul ok_mul (de_var 1) (dc cx d_choices (fc.gl' 29) kp_choices b_choices_1_ (dall_pos (dg_val (de_var 2) dg_nil)))))))
  (dss_one (ds_ret (de_mv 1))))))
    exact out
theorem t_is_within (fc : FC fa K mg) (h_tab_bool : isiB K (.type "bool") tab_bool = true) (h_tab_int : isiB K (.type "int") tab_int = true) (F : FunD K "is_within" "is_within" (defArgs (topS 5)) (defBody (topS 5)) (defScope (topS 5)) [] [] (He.ga K "is_within") fd_is_within) : FnOk P w K mg base (L2.CX P w) 1 (He.ga K "is_within") fd_is_within ["thing", "low", "high"] (spD K [false, false, false] F_is_within) :=
  def_ok (N := ["thing", "low", "high"]) F (C8.fnScope_by (by decide)) rfl fun cdv A outer s H E W c => by
      have cx := c.toCCx
      have hN : List.Nodup (["thing", "low", "high"] : List Str) := by decide
      exact (dss_one (ds_ret (de_and (de_isiB "int" tab_int (fc.fr' 1) (fc.fr' 3) (de_var 0) h_tab_int) (de_and (de_not (de_isiB "bool" tab_bool (fc.fr' 1) (fc.fr' 2) (de_var 0) h_tab_bool)) (de_bool1 (de_chain op_le op_le ok_le ok_le (de_var 1) (de_var 0) (de_var 2)))))))
theorem t_is_leaf (fc : FC fa K mg) (F : FunD K "is_leaf" "is_leaf" (defArgs (topS 12)) (defBody (topS 12)) (defScope (topS 12)) [] [] (He.ga K "is_leaf") fd_is_leaf) (d_is_within : FnOk P w K mg base (L2.CX P w) 1 (He.ga K "is_within") fd_is_within ["thing", "low", "high"] (spD K [false, false, false] F_is_within)) (kp_is_within : PySem.W.keepIn K (.ref (He.ga K "is_within")) = true) (b_is_within_3_ : BOk K fd_is_within ["thing", "low", "high"] 3 [] [.arg 0, .arg 1, .arg 2]) : FnOk P w K mg base (L2.CX P w) 2 (He.ga K "is_leaf") fd_is_leaf ["plan"] (spD K [false] F_is_leaf) :=
  def_ok (N := ["plan", "word", "low", "high", "rest", "late"]) F (C8.fnScope_by (by decide)) rfl fun cdv A outer s H E W c => by
      have cx := c.toCCx
      have hN : List.Nodup (["plan", "word", "low", "high", "rest", "late"] : List Str) := by decide
      exact (dss_cons (ds_asg (de_var 0) (dg_star rfl (dgs_cons (dg_name 1 hN) (dgs_cons (dg_name 2 hN) (dgs_cons (dg_name 3 hN) (dgs_star1 (dg_name 4 hN)))))))
  (dss_cons (ds_if (dt_cmp (op_eqF (unitsE cx)) ok_eqF (de_var 1) de_str) (dss_one (ds_ret (de_and (dc cx d_is_within (fc.gl' 31) kp_is_within b_is_within_3_ (dall_pos (dg_val (de_var 2) (dg_val de_int (dg_val (de_gint (fc.int' 30)) dg_nil))))) (de_bool1 (dc cx d_is_within (fc.gl' 31) kp_is_within b_is_within_3_ (dall_pos (dg_val (de_var 3) (dg_val (de_var 2) (dg_val (de_gint (fc.int' 30)) dg_nil))))))))) dss_nil)
  (dss_cons (ds_set 5 hN (de_or (de_cmp op_isN ok_isN (de_sub (units1 cx) (de_var 4) de_int) de_non) (de_bool1 (dc cx d_is_within (fc.gl' 31) kp_is_within b_is_within_3_ (dall_pos (dg_val (de_sub (units1 cx) (de_var 4) de_int) (dg_val de_int (dg_val (de_gint (fc.int' 30)) dg_nil))))))))
  (dss_one (ds_ret (de_and (de_var 5) (de_and (dc cx d_is_within (fc.gl' 31) kp_is_within b_is_within_3_ (dall_pos (dg_val (de_var 2) (dg_val de_int (dg_val (de_gint (fc.int' 30)) dg_nil))))) (de_bool1 (dc cx d_is_within (fc.gl' 31) kp_is_within b_is_within_3_ (dall_pos (dg_val (de_var 3) (dg_val (de_var 2) (dg_val (de_gint (fc.int' 30)) dg_nil)))))))))))))
theorem t_is_formed {lv : Nat} (fc : FC fa K mg) (h_tab_list : isiB K (.type "list") tab_list = true) (h_tab_str : isiB K (.type "str") tab_str = true) (h_tab_tuple : isiB K (.type "tuple") tab_tuple = true) (k_SIZES : ∃ es n, L2.KDict K w (He.ga K "SIZES") es n) (hv_SIZES : tabV K "SIZES" gt_SIZES = true) (F : FunD K "is_formed" "is_formed" (defArgs (topS 13)) (defBody (topS 13)) (defScope (topS 13)) [] [] (He.ga K "is_formed") fd_is_formed) (d_is_within : FnOk P w K mg base (L2.CX P w) 1 (He.ga K "is_within") fd_is_within ["thing", "low", "high"] (spD K [false, false, false] F_is_within)) (kp_is_within : PySem.W.keepIn K (.ref (He.ga K "is_within")) = true) (d_is_leaf : FnOk P w K mg base (L2.CX P w) 2 (He.ga K "is_leaf") fd_is_leaf ["plan"] (spD K [false] F_is_leaf)) (kp_is_leaf : PySem.W.keepIn K (.ref (He.ga K "is_leaf")) = true) (kp_is_formed : PySem.W.keepIn K (.ref (He.ga K "is_formed")) = true) (b_is_formed_2_ : BOk K fd_is_formed ["plan", "deep"] 2 [] [.arg 0, .arg 1]) (b_is_within_3_ : BOk K fd_is_within ["thing", "low", "high"] 3 [] [.arg 0, .arg 1, .arg 2]) (b_is_leaf_1_ : BOk K fd_is_leaf ["plan"] 1 [] [.arg 0]) : ∀ n, FnOk P w K mg base (L2.CX P w) (3 + n) (He.ga K "is_formed") fd_is_formed ["plan", "deep"] (spD K [false, false] (F_is_formed_n n))
  | 0 => fnOk_stuck rfl
  | n + 1 => by
    have d_is_formed := t_is_formed (lv := lv) fc h_tab_list h_tab_str h_tab_tuple k_SIZES hv_SIZES F d_is_within kp_is_within d_is_leaf kp_is_leaf kp_is_formed b_is_formed_2_ b_is_within_3_ b_is_leaf_1_ n
    have out : FnOk P w K mg base (L2.CX P w) (3 + n + 1) (He.ga K "is_formed") fd_is_formed ["plan", "deep"] (spD K [false, false] (F_is_formed_n (n + 1))) := def_ok (N := ["plan", "deep", "parts", "part"]) F (C8.fnScope_by (by decide)) rfl fun cdv A outer s H E W c => by
      have cx := c.toCCx
      have hN : List.Nodup (["plan", "deep", "parts", "part"] : List Str) := by decide
      exact (dss_cons (ds_if (DW.dt (dw_or (dt_cmp (op_eqF (unitsE cx)) ok_eqF (de_var 1) de_int) (dw_or (dt_not (dt_val (de_isiB "tuple" tab_tuple (fc.fr' 1) (fc.fr' 9) (de_var 0) h_tab_tuple))) (dw_or (dt_cmp (op_eqF (unitsE cx)) ok_eqF (de_callB cr_len ok_len (fc.fr' 7) (da_cons (de_var 0) da_nil)) de_int) (dw_or1 (dt_not (dt_val (de_isiB "str" tab_str (fc.fr' 1) (fc.fr' 24) (de_sub (units1 cx) (de_var 0) de_int) h_tab_str)))))))) (dss_one (ds_ret (de_own de_bl))) dss_nil)
  (dss_cons (ds_if (dt_cmp (op_neF (unitsE cx)) ok_neF (de_tget "SIZES" gt_SIZES k_SIZES hv_SIZES (fc.gl' 35) (de_sub (units1 cx) (de_var 0) de_int) de_int) (de_callB cr_len ok_len (fc.fr' 7) (da_cons (de_var 0) da_nil))) (dss_one (ds_ret (de_own de_bl))) dss_nil)
  (dss_cons (ds_if (dt_cmp (op_inAny (units1 cx)) ok_inAny (de_sub (units1 cx) (de_var 0) de_int) (de_tup (da_cons de_str (da_cons de_str da_nil)))) (dss_one (ds_ret (dc cx d_is_leaf (fc.gl' 34) kp_is_leaf b_is_leaf_1_ (dall_pos (dg_val (de_var 0) dg_nil))))) dss_nil)
  (dss_cons (ds_if (dt_cmp (op_eqF (unitsE cx)) ok_eqF (de_sub (units1 cx) (de_var 0) de_int) de_str) (dss_one (ds_ret (de_and (dc cx d_is_within (fc.gl' 31) kp_is_within b_is_within_3_ (dall_pos (dg_val (de_sub (units1 cx) (de_var 0) de_int) (dg_val de_int (dg_val (de_gint (fc.int' 30)) dg_nil))))) (de_bool1 (dc cx d_is_formed (fc.gl' 32) kp_is_formed b_is_formed_2_ (dall_pos (dg_val (de_sub (units1 cx) (de_var 0) de_int) (dg_val (de_bin op_sub ok_sub (de_var 1) de_int) dg_nil)))))))) dss_nil)
  (dss_cons (ds_set 2 hN (de_sub (units1 cx) (de_var 0) de_int))
  (dss_cons (ds_if (DW.dt (dw_or (dt_not (dt_val (de_isiB "list" tab_list (fc.fr' 1) (fc.fr' 0) (de_var 2) h_tab_list))) (dw_or1 (dt_not (dt_chain op_le op_le ok_le ok_le de_int (de_callB cr_len ok_len (fc.fr' 7) (da_cons (de_var 2) da_nil)) (de_gint (fc.int' 33))))))) (dss_one (ds_ret (de_own de_bl))) dss_nil)
  (dss_one (ds_ret (de_callB (cr_all rfl) ok_all (fc.fr' 6) (da_cons (de_lc 4 [3] [("part", 3)] rfl hN (di_any (de_var 2)) (fun s2 H2 C2 cl2 fp2 => (dg_name 3 hN)) (fun s2 H2 C2 cl2 fp2 => dts_nil) (fun s2 H2 C2 cl2 fp2 => (dc (cxB cx) d_is_formed (fc.gl' 32) kp_is_formed b_is_formed_2_ (dall_pos (dg_val (de_var 3) (dg_val (de_bin op_sub ok_sub (de_var 1) de_int) dg_nil)))))) da_nil))))))))))
    exact out
theorem t_leaves {lv : Nat} (fc : FC fa K mg) (F : FunD K "leaves" "leaves" (defArgs (topS 15)) (defBody (topS 15)) (defScope (topS 15)) [] [] (He.ga K "leaves") fd_leaves) (d_parts_of : FnOk P w K mg base (L2.CX P w) 1 (He.ga K "parts_of") fd_parts_of ["plan"] (spD K [false] F_parts_of)) (kp_parts_of : PySem.W.keepIn K (.ref (He.ga K "parts_of")) = true) (kp_leaves : PySem.W.keepIn K (.ref (He.ga K "leaves")) = true) (b_parts_of_1_ : BOk K fd_parts_of ["plan"] 1 [] [.arg 0]) (b_leaves_1_ : BOk K fd_leaves ["plan"] 1 [] [.arg 0]) : ∀ n, FnOk P w K mg base (L2.CX P w) (2 + n) (He.ga K "leaves") fd_leaves ["plan"] (spD K [false] (F_leaves_n n))
  | 0 => fnOk_stuck rfl
  | n + 1 => by
    have d_leaves := t_leaves (lv := lv) fc F d_parts_of kp_parts_of kp_leaves b_parts_of_1_ b_leaves_1_ n
    have out : FnOk P w K mg base (L2.CX P w) (2 + n + 1) (He.ga K "leaves") fd_leaves ["plan"] (spD K [false] (F_leaves_n (n + 1))) := def_ok (N := ["plan", "part"]) F (C8.fnScope_by (by decide)) rfl fun cdv A outer s H E W c => by
      have cx := c.toCCx
      have hN : List.Nodup (["plan", "part"] : List Str) := by decide
      exact (dss_one (ds_ret (de_callB (call_max2 rfl) ok_max2 (fc.fr' 14) (da_cons de_int (da_cons (de_sumK rfl (fc.fr' 11) (da_cons (de_lc 2 [1] [("part", 1)] rfl hN (di_any (dc cx d_parts_of (fc.gl' 28) kp_parts_of b_parts_of_1_ (dall_pos (dg_val (de_var 0) dg_nil)))) (fun s2 H2 C2 cl2 fp2 => (dg_name 1 hN)) (fun s2 H2 C2 cl2 fp2 => dts_nil) (fun s2 H2 C2 cl2 fp2 => (dc (cxB cx) d_leaves (fc.gl' 36) kp_leaves b_leaves_1_ (dall_pos (dg_val (de_var 1) dg_nil))))) da_nil)) da_nil)))))
    exact out
theorem t_need_plan (fc : FC fa K mg) (F : FunD K "need_plan" "need_plan" (defArgs (topS 17)) (defBody (topS 17)) (defScope (topS 17)) [] [] (He.ga K "need_plan") fd_need_plan) (d_choices : FnOk P w K mg base (L2.CX P w) 10 (He.ga K "choices") fd_choices ["plan"] (spD K [false] F_choices)) (kp_choices : PySem.W.keepIn K (.ref (He.ga K "choices")) = true) (d_leaves : FnOk P w K mg base (L2.CX P w) 10 (He.ga K "leaves") fd_leaves ["plan"] (spD K [false] F_leaves)) (kp_leaves : PySem.W.keepIn K (.ref (He.ga K "leaves")) = true) (d_is_formed : FnOk P w K mg base (L2.CX P w) 11 (He.ga K "is_formed") fd_is_formed ["plan", "deep"] (spD K [false, false] F_is_formed)) (kp_is_formed : PySem.W.keepIn K (.ref (He.ga K "is_formed")) = true) (b_choices_1_ : BOk K fd_choices ["plan"] 1 [] [.arg 0]) (b_leaves_1_ : BOk K fd_leaves ["plan"] 1 [] [.arg 0]) (b_is_formed_2_ : BOk K fd_is_formed ["plan", "deep"] 2 [] [.arg 0, .arg 1]) : FnOk P w K mg base (L2.CX P w) 12 (He.ga K "need_plan") fd_need_plan ["plan"] (spD K [false] F_need_plan) :=
  def_ok (N := ["plan"]) F (C8.fnScope_by (by decide)) rfl fun cdv A outer s H E W c => by
      have cx := c.toCCx
      have hN : List.Nodup (["plan"] : List Str) := by decide
      exact (dss_one (ds_if (DW.dt (dw_or (dt_not (dt_val (dc cx d_is_formed (fc.gl' 32) kp_is_formed b_is_formed_2_ (dall_pos (dg_val (de_var 0) (dg_val (de_gint (fc.int' 39)) dg_nil)))))) (dw_or (dt_cmp op_gt ok_gt (dc cx d_leaves (fc.gl' 36) kp_leaves b_leaves_1_ (dall_pos (dg_val (de_var 0) dg_nil))) (de_gint (fc.int' 38))) (dw_or1 (dt_cmp op_gt ok_gt (dc cx d_choices (fc.gl' 29) kp_choices b_choices_1_ (dall_pos (dg_val (de_var 0) dg_nil))) (de_gint (fc.int' 37))))))) (dss_one ds_never) dss_nil))
theorem t_ways {lv : Nat} (fc : FC fa K mg) (F : FunD K "ways" "ways" (defArgs (topS 18)) (defBody (topS 18)) (defScope (topS 18)) [] [] (He.ga K "ways") fd_ways) (kp_ways : PySem.W.keepIn K (.ref (He.ga K "ways")) = true) (b_ways_1_ : BOk K fd_ways ["plan"] 1 [] [.arg 0]) : ∀ n, FnOk P w K mg base (L2.CX P w) (1 + n) (He.ga K "ways") fd_ways ["plan"] (spD K [false] (F_ways_n n))
  | 0 => fnOk_stuck rfl
  | n + 1 => by
    have d_ways := t_ways (lv := lv) fc F kp_ways b_ways_1_ n
    have out : FnOk P w K mg base (L2.CX P w) (1 + n + 1) (He.ga K "ways") fd_ways ["plan"] (spD K [false] (F_ways_n (n + 1))) := def_ok (N := ["plan", "word", "rows", "part", "one", "row"]) F (C8.fnScope_by (by decide)) rfl fun cdv A outer s H E W c => by
      have cx := c.toCCx
      have hN : List.Nodup (["plan", "word", "rows", "part", "one", "row"] : List Str) := by decide
      exact (dss_cons (ds_set 1 hN (de_sub (units1 cx) (de_var 0) de_int))
  (dss_cons (ds_if (dt_cmp (op_eqF (unitsE cx)) ok_eqF (de_var 1) de_str) (dss_one (ds_ret (de_lc2 6 [3, 4] [4] [("part", 3), ("one", 4)] rfl hN (di_any (de_sub (units1 cx) (de_var 0) de_int)) (fun s2 H2 C2 cl2 fp2 => (dg_name 3 hN)) (fun s2 H2 C2 cl2 fp2 => dts_nil) (fun s2 H2 C2 cl2 fp2 => (dc (cxB cx) d_ways (fc.gl' 40) kp_ways b_ways_1_ (dall_pos (dg_val (de_var 3) dg_nil)))) (fun s2 H2 C2 cl2 fp2 => (dg_name 4 hN)) (fun s2 H2 C2 cl2 fp2 => dts_nil) (fun s2 H2 C2 cl2 fp2 => (de_chk (de_var 4)))))) dss_nil)
  (dss_cons (ds_if (dt_cmp (op_eqF (unitsE cx)) ok_eqF (de_var 1) de_str) (dss_one (ds_ret (de_lcM 6 [4] [("one", 4)] rfl hN (di_any (dc cx d_ways (fc.gl' 40) kp_ways b_ways_1_ (dall_pos (dg_val (de_sub (units1 cx) (de_var 0) de_int) dg_nil)))) (fun s2 H2 C2 cl2 fp2 => (dg_name 4 hN)) (fun s2 H2 C2 cl2 fp2 => dts_nil) (fun s2 H2 C2 cl2 fp2 => (de_frE (de_tup (da_cons de_str (da_cons (de_chk (de_sub (units1 (cxB cx)) (de_var 0) de_int)) (da_cons (de_chk (de_var 4)) da_nil))))))))) dss_nil)
  (dss_cons (ds_if (dt_cmp (op_inAny (units1 cx)) ok_inAny (de_var 1) (de_tup (da_cons de_str (da_cons de_str da_nil)))) (dss_one (ds_ret (de_lst (da_cons (de_chk (de_var 0)) da_nil)))) dss_nil)
  (dss_cons (ds_set 2 hN (de_lst (da_cons (de_lst da_nil) da_nil)))
  (dss_cons (ds_forI c.hp rfl (di_any (de_sub (units1 cx) (de_var 0) de_int)) (dg_name 3 hN) (dss_one (ds_setLc2 2 6 [5, 4] [4] [("row", 5), ("one", 4)] rfl hN (di_any (de_var 2)) (fun s2 H2 C2 cl2 fp2 => (dg_name 5 hN)) (fun s2 H2 C2 cl2 fp2 => dts_nil) (fun s2 H2 C2 cl2 fp2 => (dc (cxB cx) d_ways (fc.gl' 40) kp_ways b_ways_1_ (dall_pos (dg_val (de_var 3) dg_nil)))) (fun s2 H2 C2 cl2 fp2 => (dg_name 4 hN)) (fun s2 H2 C2 cl2 fp2 => dts_nil) (fun s2 H2 C2 cl2 fp2 => (de_bin op_add4 ok_add (de_var 5) (de_lst (da_cons (de_chk (de_var 4)) da_nil)))))))
  (dss_one (ds_ret (de_lcM 6 [5] [("row", 5)] rfl hN (di_any (de_fz 2)) (fun s2 H2 C2 cl2 fp2 => (dg_name 5 hN)) (fun s2 H2 C2 cl2 fp2 => dts_nil) (fun s2 H2 C2 cl2 fp2 => (de_frE (de_tup (da_cons (de_chk (de_var 1)) (da_cons (de_callTy (cr_list rfl) ok_list (fc.fr' 0) (da_cons (de_var 5) da_nil)) da_nil))))))))))))))
    exact out
theorem t_readings (fc : FC fa K mg) (F : FunD K "readings" "readings" (defArgs (topS 20)) (defBody (topS 20)) (defScope (topS 20)) [] [] (He.ga K "readings") fd_readings) (d_ways : FnOk P w K mg base (L2.CX P w) 9 (He.ga K "ways") fd_ways ["plan"] (spD K [false] F_ways)) (kp_ways : PySem.W.keepIn K (.ref (He.ga K "ways")) = true) (d_anew : FnOk P w K mg base (L2.CX P w) 9 (He.ga K "anew") fd_anew ["plan"] (spD K [false] F_anew)) (kp_anew : PySem.W.keepIn K (.ref (He.ga K "anew")) = true) (d_need_plan : FnOk P w K mg base (L2.CX P w) 12 (He.ga K "need_plan") fd_need_plan ["plan"] (spD K [false] F_need_plan)) (kp_need_plan : PySem.W.keepIn K (.ref (He.ga K "need_plan")) = true) (b_ways_1_ : BOk K fd_ways ["plan"] 1 [] [.arg 0]) (b_anew_1_ : BOk K fd_anew ["plan"] 1 [] [.arg 0]) (b_need_plan_1_ : BOk K fd_need_plan ["plan"] 1 [] [.arg 0]) : FnOk P w K mg base (L2.CX P w) 13 (He.ga K "readings") fd_readings ["plan"] (spD K [false] F_readings) :=
  def_ok (N := ["plan", "one"]) F (C8.fnScope_by (by decide)) rfl fun cdv A outer s H E W c => by
      have cx := c.toCCx
      have hN : List.Nodup (["plan", "one"] : List Str) := by decide
      exact (dss_cons (ds_expr (dc cx d_need_plan (fc.gl' 41) kp_need_plan b_need_plan_1_ (dall_pos (dg_val (de_var 0) dg_nil))))
  (dss_one (ds_ret (de_lc 2 [1] [("one", 1)] rfl hN (di_any (dc cx d_ways (fc.gl' 40) kp_ways b_ways_1_ (dall_pos (dg_val (de_var 0) dg_nil)))) (fun s2 H2 C2 cl2 fp2 => (dg_name 1 hN)) (fun s2 H2 C2 cl2 fp2 => dts_nil) (fun s2 H2 C2 cl2 fp2 => (dc (cxB cx) d_anew (fc.gl' 27) kp_anew b_anew_1_ (dall_pos (dg_val (de_var 1) dg_nil))))))))
theorem t_law (fc : FC fa K mg) (F : FunD K "law" "law" (defArgs (topS 38)) (defBody (topS 38)) (defScope (topS 38)) [] [] (He.ga K "law") fd_law) (d__law_same : FnOk P w K mg base (L2.CX P w) 17 (He.ga K "_law_same") fd__law_same ["_law_found", "_law_due"] (spD K [false, false] F__law_same)) (kp__law_same : PySem.W.keepIn K (.ref (He.ga K "_law_same")) = true) (d_readings : FnOk P w K mg base (L2.CX P w) 13 (He.ga K "readings") fd_readings ["plan"] (spD K [false] F_readings)) (kp_readings : PySem.W.keepIn K (.ref (He.ga K "readings")) = true) (d__law_good_plan : FnOk P w K mg base (L2.CX P w) 12 (He.ga K "_law_good_plan") fd__law_good_plan ["_law_plan_here"] (spD K [false] F__law_good_plan)) (kp__law_good_plan : PySem.W.keepIn K (.ref (He.ga K "_law_good_plan")) = true) (d__law_wreck : FnOk P w K mg base (L2.CX P w) 10 (He.ga K "_law_wreck") fd__law_wreck ["_law_plan_here"] (spD K [true] F__law_wreck)) (kp__law_wreck : PySem.W.keepIn K (.ref (He.ga K "_law_wreck")) = true) (d__law_ways : FnOk P w K mg base (L2.CX P w) 9 (He.ga K "_law_ways") fd__law_ways ["_law_plan_here"] (spD K [false] F__law_ways)) (kp__law_ways : PySem.W.keepIn K (.ref (He.ga K "_law_ways")) = true) (d__law_plan_copy : FnOk P w K mg base (L2.CX P w) 9 (He.ga K "_law_plan_copy") fd__law_plan_copy ["_law_plan_here"] (spD K [false] F__law_plan_copy)) (kp__law_plan_copy : PySem.W.keepIn K (.ref (He.ga K "_law_plan_copy")) = true) (d__law_plan : FnOk P w K mg base (L2.CX P w) 11 (He.ga K "_law_plan") fd__law_plan ["_law_flow_here", "_law_bottom", "_law_words", "_law_far"] (spD K [true, false, false, false] F__law_plan)) (kp__law_plan : PySem.W.keepIn K (.ref (He.ga K "_law_plan")) = true) (d__law_flow : FnOk P w K mg base (L2.CX P w) 1 (He.ga K "_law_flow") fd__law_flow ["_law_script"] (spD K [false] F__law_flow)) (kp__law_flow : PySem.W.keepIn K (.ref (He.ga K "_law_flow")) = true) (b__law_same_2_ : BOk K fd__law_same ["_law_found", "_law_due"] 2 [] [.arg 0, .arg 1]) (b_readings_1_ : BOk K fd_readings ["plan"] 1 [] [.arg 0]) (b__law_good_plan_1_ : BOk K fd__law_good_plan ["_law_plan_here"] 1 [] [.arg 0]) (b__law_wreck_1_ : BOk K fd__law_wreck ["_law_plan_here"] 1 [] [.arg 0]) (b__law_ways_1_ : BOk K fd__law_ways ["_law_plan_here"] 1 [] [.arg 0]) (b__law_plan_copy_1_ : BOk K fd__law_plan_copy ["_law_plan_here"] 1 [] [.arg 0]) (b__law_plan_4_ : BOk K fd__law_plan ["_law_flow_here", "_law_bottom", "_law_words", "_law_far"] 4 [] [.arg 0, .arg 1, .arg 2, .arg 3]) (b__law_flow_1_ : BOk K fd__law_flow ["_law_script"] 1 [] [.arg 0]) : FnOk P w K mg base (L2.CX P w) 18 (He.ga K "law") fd_law ["_law_script"] (spD K [false] F_law) :=
  def_ok (N := ["_law_script", "_law_flow_here", "_law_words", "_law_turn", "_law_plan_here", "_law_handed", "_law_due", "_law_step", "_law_found"]) F (C8.fnScope_by (by decide)) rfl fun cdv A outer s H E W c => by
      have cx := c.toCCx
      have hN : List.Nodup (["_law_script", "_law_flow_here", "_law_words", "_law_turn", "_law_plan_here", "_law_handed", "_law_due", "_law_step", "_law_found"] : List Str) := by decide
      exact (dss_cons (ds_set 1 hN (dc cx d__law_flow (fc.gl' 44) kp__law_flow b__law_flow_1_ (dall_pos (dg_val (de_var 0) dg_nil))))
  (dss_cons (ds_set 2 hN (de_frE (de_lst (da_cons de_str (da_cons de_str (da_cons de_str (da_cons de_str (da_cons de_str da_nil))))))))
  (dss_cons (ds_for1 c.hp rfl rfl (fc.fr' 18) (da_cons de_int da_nil) (dg_name 3 hN) (dss_cons (ds_set 4 hN (de_frE (dc cx d__law_plan (fc.gl' 19) kp__law_plan b__law_plan_4_ (dall_pos (dg_slot 1 (dg_val de_int (dg_val (de_var 2) (dg_val de_int dg_nil))))))))
  (dss_one (ds_if (dt_val (dc cx d__law_good_plan (fc.gl' 43) kp__law_good_plan b__law_good_plan_1_ (dall_pos (dg_val (de_var 4) dg_nil)))) (dss_cons (ds_set 5 hN (de_frE (dc cx d__law_plan_copy (fc.gl' 21) kp__law_plan_copy b__law_plan_copy_1_ (dall_pos (dg_val (de_var 4) dg_nil)))))
  (dss_cons (ds_set 6 hN (dc cx d__law_ways (fc.gl' 25) kp__law_ways b__law_ways_1_ (dall_pos (dg_val (de_var 4) dg_nil))))
  (dss_one (ds_for1 c.hp rfl rfl (fc.fr' 18) (da_cons de_int da_nil) (dg_name 7 hN) (dss_cons (ds_set 8 hN (dc cx d_readings (fc.gl' 42) kp_readings b_readings_1_ (dall_pos (dg_val (de_var 5) dg_nil))))
  (dss_cons (ds_if (DW.dt (dw_or (dt_not (dt_val (dc cx d__law_same (fc.gl' 22) kp__law_same b__law_same_2_ (dall_pos (dg_val (de_var 8) (dg_val (de_var 6) dg_nil)))))) (dw_or1 (dt_not (dt_val (dc cx d__law_same (fc.gl' 22) kp__law_same b__law_same_2_ (dall_pos (dg_val (de_var 5) (dg_val (de_var 4) dg_nil))))))))) (dss_one (ds_ret (de_own de_bl))) dss_nil)
  (dss_cons (ds_expr (de_lendI 8 0 cx d__law_wreck (fc.gl' 26) kp__law_wreck b__law_wreck_1_))
  (dss_cons (ds_if (DW.dt (dw_or (dt_not (dt_val (de_z (js := [8, 6]) (dc cx d__law_same (fc.gl' 22) kp__law_same b__law_same_2_ (dall_pos (dg_val (de_slice (de_var 8) (do_some de_int) do_none) (dg_val (de_slice (de_var 6) (do_some de_int) do_none) dg_nil))))))) (dw_or1 (dt_not (dt_val (dc cx d__law_same (fc.gl' 22) kp__law_same b__law_same_2_ (dall_pos (dg_val (de_var 5) (dg_val (de_var 4) dg_nil))))))))) (dss_one (ds_ret (de_own de_bl))) dss_nil)
  (dss_one (ds_expr (de_reverse (pl_var 8)))))))))))) dss_nil))))
  (dss_one (ds_ret (dc cx d__law_same (fc.gl' 22) kp__law_same b__law_same_2_ (dall_pos (dg_val (dc cx d_readings (fc.gl' 42) kp_readings b_readings_1_ (dall_pos (dg_val (de_tup (da_cons de_str (da_cons de_int (da_cons de_int da_nil)))) dg_nil))) (dg_val (de_lst (da_cons (de_tup (da_cons de_str (da_cons de_int (da_cons de_int da_nil)))) da_nil)) dg_nil)))))))))
end
end My
namespace My
open PySem PySem.Spec L2 DL PL
theorem flow_ok (xs : List Int) : ∃ f, F__law_flow [.scr xs] = .ret f [] ∧ FlOk f := by
  refine ⟨flw ((xs.take 63).map .int) 0 0 11, ?_, ⟨xs.take 63, 0, 0, 11, rfl, by decide, by decide, by decide, by rw [List.length_take]; omega⟩⟩
  unfold F__law_flow runF B__law_flow flw
  have e : oSl (.scr xs) none (some 63) = some (.node true .lst ((xs.take 63).map .int)) := by
    show some (D.node true .lst (cutD (xs.map D.int) none (some 63))) = _
    unfold cutD
    have h1 : HT.sIx (xs.map D.int).length 0 none = 0 := rfl
    have h2 : HT.sIx (xs.map D.int).length (xs.map D.int).length (some 63) = min 63 (xs.map D.int).length := HT.sIx_nat _ _ 63
    rw [h1, h2, List.drop_zero, Nat.sub_zero, List.map_take, ← List.take_eq_take_min]
  have f : frzL (List.take 63 (List.map D.int xs)) = true := by rw [← List.map_take]; exact frzL_map_int
  simp [e, f]
def poolL : List Str := ["a", "bb", "c", "zzzzzzzz", "ab", "x", "late", "by", "q", "tie", "ends", "waits", "k", "ba"]
end My
namespace My
open PySem PySem.Spec L2 DL PL
structure WindOk (w : Wd) (own : List Str) (far : Int) : Prop where
  beg : w.b = "start" ∨ w.b ∈ own
  lo : 1 ≤ w.lo
  hi : w.lo ≤ w.hi ∧ w.hi ≤ 2 * far
  late : w.late = none ∨ ∃ i, w.late = some i ∧ 0 ≤ i ∧ i ≤ far
structure BondOk (w : Bd) (ps : List Str) (far : Int) : Prop where
  one : w.one ∈ ps
  other : w.other ∈ ps
  ne : w.one ≠ w.other
  tie : TieOk w.least w.most
end My
namespace My
open PySem PySem.Spec L2 DL PL
def SlF (s : Sl) : Prop := s = .dead ∨ ∃ x, s = .own x
structure Drawn (m : Mdl) (n1 n2 n3 : Nat) (far last : Int) : Prop where
  by_ : m.by_ = last
  own : m.own.length = n1
  winds : m.winds.length = n2
  bonds : m.bonds.length = n3
  pool : ∃ r, ((m.own ++ m.winds.map (·.e)) ++ r).Perm poolL
  wok : ∀ w ∈ m.winds, WindOk w m.own far
  bok : ∀ w ∈ m.bonds, BondOk w m.points far
theorem poolL_nodup : poolL.Nodup := by decide +kernel
theorem poolL_start : ("start" : Str) ∉ poolL := by decide +kernel
theorem points_nodup {m : Mdl} (h : ∃ r, ((m.own ++ m.winds.map (·.e)) ++ r).Perm poolL) : m.points.Nodup ∧ ∀ x ∈ m.own ++ m.winds.map (·.e), x ∈ poolL := by
  obtain ⟨r, h⟩ := h
  have h1 := h.nodup_iff.mpr poolL_nodup
  have h2 : ∀ x ∈ m.own ++ m.winds.map (·.e), x ∈ poolL := fun x hx => h.subset (List.mem_append_left _ hx)
  refine ⟨List.nodup_cons.mpr ⟨fun z => poolL_start (h2 _ z), (List.nodup_append.mp h1).1⟩, h2⟩
end My
namespace My
open PySem PySem.Spec L2 DL PL
theorem pool_isNm : ∀ x ∈ poolL, isNm x = true ∧ x.length ≤ 10000 := by
  have q : (poolL.all fun x => isNm x && decide (x.length ≤ 10000)) = true := by decide +kernel
  intro x hx
  have z := List.all_eq_true.mp q x hx
  rw [Bool.and_eq_true, decide_eq_true_eq] at z
  exact z
structure MdlOk (m : Mdl) : Prop where
  by_ : 1 ≤ m.by_ ∧ m.by_ ≤ 1000
  nd : m.points.Nodup
  nm : ∀ x ∈ m.own ++ m.winds.map (·.e), isNm x = true ∧ x.length ≤ 10000
  l1 : m.own.length ≤ 10
  l2 : m.winds.length ≤ 4
  l3 : m.bonds.length ≤ 40
  wok : ∀ w ∈ m.winds, (w.b = "start" ∨ w.b ∈ m.own) ∧ (1 ≤ w.lo ∧ w.lo ≤ w.hi ∧ w.hi ≤ 1000) ∧ LateOk w.late
  bok : ∀ w ∈ m.bonds, w.one ∈ m.points ∧ w.other ∈ m.points ∧ w.one ≠ w.other ∧ TieOk w.least w.most
theorem MdlOk.sm {m : Mdl} (h : MdlOk m) : m.Sm := ⟨by have := h.l1; omega, by have := h.l2; omega, by have := h.l3; omega⟩
theorem Drawn.ok {m : Mdl} {n1 n2 n3 : Nat} {far last : Int} (h : Drawn m n1 n2 n3 far last) (h1 : n1 ≤ 10) (h2 : n2 ≤ 4) (h3 : n3 ≤ 40) (hf : far ≤ 500) (hl : 1 ≤ last ∧ last ≤ 1000) : MdlOk m where
  by_ := by rw [h.by_]; exact hl
  nd := (points_nodup h.pool).1
  nm := fun x hx => pool_isNm x ((points_nodup h.pool).2 x hx)
  l1 := by rw [h.own]; exact h1
  l2 := by rw [h.winds]; exact h2
  l3 := by rw [h.bonds]; exact h3
  wok := fun w hw => by
    have q := h.wok w hw
    refine ⟨q.beg, ⟨q.lo, q.hi.1, ?_⟩, ?_⟩
    · have := q.hi.2; omega
    · rcases q.late with z | ⟨i, z, z1, z2⟩
      · rw [z]; trivial
      · rw [z]; exact ⟨z1, by omega⟩
  bok := fun w hw => by
    have q := h.bok w hw
    exact ⟨q.one, q.other, q.ne, q.tie⟩
section
variable {m : Mdl}
@[simp] theorem web_frz : m.web.frz = false := (rfl)
@[simp] theorem web_m5 : isIns "Web" "with_moment" m.web = true := (rfl)
@[simp] theorem web_m6 : isIns "Web" "with_span" m.web = true := (rfl)
@[simp] theorem web_m7 : isIns "Web" "with_tie" m.web = true := (rfl)
@[simp] theorem web_m8 : isIns "Web" "moments" m.web = true := (rfl)
@[simp] theorem web_m9 : isIns "Web" "spans" m.web = true := (rfl)
@[simp] theorem web_m10 : isIns "Web" "ties" m.web = true := (rfl)
@[simp] theorem web_m1 : isIns "Web" "points" m.web = true := (rfl)
@[simp] theorem dict_frz : m.dict.frz = false := (rfl)
@[simp] theorem dict_by : oItm [m.dict, .str "by"] = some (.int m.by_) := (rfl)
@[simp] theorem dict_own : oItm [m.dict, .str "own"] = some (L (m.own.map .str)) := (rfl)
@[simp] theorem dict_winds : oItm [m.dict, .str "winds"] = some (L (m.winds.map Wd.d)) := (rfl)
@[simp] theorem dict_bonds : oItm [m.dict, .str "bonds"] = some (L (m.bonds.map Bd.d)) := (rfl)
end
end My
namespace My
open PySem PySem.Spec L2 DL PL
def stepI (g : D → Evn → Option Evn) (fb : FS) (x : D) (e : Evn) (I : Evn → Prop) (R : D → Evn → Prop) : Prop :=
  match g x e with
  | none => False
  | some e1 => match fb e1 with
    | .nxt e2 => I e2
    | .cnt e2 => I e2
    | .ret d e2 => R d e2
    | _ => False
theorem stepI_elim {g : D → Evn → Option Evn} {fb : FS} {x : D} {e : Evn} {I : Evn → Prop} {R : D → Evn → Prop} (h : stepI g fb x e I R) : ∃ e1, g x e = some e1 ∧ ((∃ e2, (fb e1 = .nxt e2 ∨ fb e1 = .cnt e2) ∧ I e2) ∨ ∃ d e2, fb e1 = .ret d e2 ∧ R d e2) := by
  unfold stepI at h
  cases hg : g x e with
  | none => rw [hg] at h; exact h.elim
  | some e1 =>
    rw [hg] at h
    refine ⟨e1, rfl, ?_⟩
    simp only [] at h
    cases hf : fb e1 with
    | nxt e2 => rw [hf] at h; exact .inl ⟨e2, .inl rfl, h⟩
    | cnt e2 => rw [hf] at h; exact .inl ⟨e2, .inr rfl, h⟩
    | ret d e2 => rw [hf] at h; exact .inr ⟨d, e2, rfl, h⟩
    | _ => rw [hf] at h; exact h.elim
theorem loop_ixR {α : Type} {g : D → Evn → Option Evn} {fb : FS} (enc : α → D) (l : List α) (I : List α → Evn → Prop) (R : D → Evn → Prop) (env : Evn) (h0 : I [] env) (st : ∀ p a q e, l = p ++ a :: q → I p e → stepI g fb (enc a) e (I (p ++ [a])) R) :
    (∃ e', loopD g fb (l.map enc) env = .nxt e' ∧ I l e') ∨ ∃ d e', loopD g fb (l.map enc) env = .ret d e' ∧ R d e' := by
  have r := loopD_invR (g := g) (fb := fb) (fun k e => I (l.take k) e) R (l.map enc) 0 env h0 (by
    intro i x e hx hi
    rw [List.getElem?_map] at hx
    rw [Nat.zero_add] at hi
    cases hy : l[i]? with
    | none => rw [hy] at hx; cases hx
    | some a =>
      rw [hy] at hx
      cases hx
      have hl : i < l.length := by
        rcases Nat.lt_or_ge i l.length with h | h
        · exact h
        · rw [List.getElem?_eq_none h] at hy; cases hy
      have hd : l = l.take i ++ a :: l.drop (i + 1) := by
        have e1 : l.drop i = a :: l.drop (i + 1) := by
          rw [List.drop_eq_getElem_cons hl]
          rw [List.getElem?_eq_getElem hl] at hy
          cases hy
          rfl
        rw [← e1, List.take_append_drop]
      have ht : l.take (i + 1) = l.take i ++ [a] := by
        rw [List.take_add_one, hy]
        rfl
      have q := stepI_elim (st _ a _ e hd hi)
      rw [Nat.zero_add, ht]
      exact q)
  rw [List.length_map, Nat.zero_add, List.take_length] at r
  exact r
theorem loop_ix {α : Type} {g : D → Evn → Option Evn} {fb : FS} (enc : α → D) (l : List α) (I : List α → Evn → Prop) (env : Evn) (h0 : I [] env) (st : ∀ p a q e, l = p ++ a :: q → I p e → stepI g fb (enc a) e (I (p ++ [a])) (fun _ _ => False)) :
    ∃ e', loopD g fb (l.map enc) env = .nxt e' ∧ I l e' := by
  rcases loop_ixR enc l I (fun _ _ => False) env h0 st with h | ⟨_, _, _, h⟩
  · exact h
  · exact h.elim
theorem killS_f {s : Sl} {j : Nat} (h : SlF s) : killS j s = s := by
  rcases h with rfl | ⟨x, rfl⟩ <;> rfl
@[simp] theorem slF_dead : SlF .dead := .inl rfl
@[simp] theorem slF_own {x : D} : SlF (.own x) := .inr ⟨x, rfl⟩
def Pln : Nat → D → Prop
  | 0, _ => False
  | n + 1, d => match d with
    | .non => True
    | .bl _ => True
    | .int _ => True
    | .str _ => True
    | .node _ .lst xs => xs.length ≤ 100000 ∧ ∀ x ∈ xs, Pln n x
    | .node _ .tup xs => xs.length ≤ 100000 ∧ ∀ x ∈ xs, Pln n x
    | .node _ (.dic ks) xs => (xs.length ≤ 100000 ∧ ∀ x ∈ xs, Pln n x) ∧ xs.length = ks.length ∧ ks.Nodup
    | _ => False
theorem blsD_true {α : Type} {l : List α} : blsD (l.map fun _ => D.bl true) = some (l.map fun _ => true) := blsD_map (f := fun _ => true)
theorem fz_get {xs ys : List D} (h : fzL xs = fzL ys) : xs.length = ys.length ∧ ∀ (i : Nat) (x y : D), xs[i]? = some x → ys[i]? = some y → x.fz = y.fz := by
  rw [fzL_map, fzL_map] at h
  refine ⟨by have := congrArg List.length h; simpa using this, fun i x y hx hy => ?_⟩
  have q := congrArg (fun l => l[i]?) h
  simp only [List.getElem?_map, hx, hy, Option.map_some, Option.some.injEq] at q
  exact q
def cmpS (F : List D → Fo) : FE := fCall F [false, false] ar__law_same_2_ [.val (.bor 0), .val (.bor 1)] (aCons (fOp oItm (aCons (fVar 0) (aCons (fVar 3) aNil))) (aCons (fOp oItm (aCons (fVar 1) (aCons (fVar 3) aNil))) aNil))
theorem cmpS_all {F : List D → Fo} {d d' : D} {xs ys : List D} (hd : ∀ i : Int, oItm [d, .int i] = atI xs i) (hd' : ∀ i : Int, oItm [d', .int i] = atI ys i) (hl : xs.length = ys.length) (h : ∀ (i : Nat) (x y : D), xs[i]? = some x → ys[i]? = some y → F [x, y] = .ret (.bl true) []) :
    compD (gChk .own (gNm 3)) fYes (cmpS F) [.bor none d, .bor none d', .dead, .dead] (rangeD 0 ys.length) = some ((List.range ys.length).map fun _ => .bl true) := by
  unfold rangeD
  refine compD_map fun i hi => ?_
  have hi' := List.mem_range.mp hi
  have e1 : atI xs (0 + (i : Int)) = some (xs[i]'(by omega)) := by rw [Int.zero_add, atI_pos (by omega), Int.toNat_natCast]; exact List.getElem?_eq_getElem (by omega)
  have e2 : atI ys (0 + (i : Int)) = some (ys[i]'(by omega)) := by rw [Int.zero_add, atI_pos (by omega), Int.toNat_natCast]; exact List.getElem?_eq_getElem (by omega)
  have e3 := h i _ _ (List.getElem?_eq_getElem (by omega)) (List.getElem?_eq_getElem hi')
  generalize xs[i]'(by omega) = x at e1 e3
  generalize ys[i]'(by omega) = y at e2 e3
  refine ⟨[.bor none d, .bor none d', .dead, .own (.int (0 + (i : Int)))], [.bor none d, .bor none d', .dead, .own (.int (0 + (i : Int)))], [.bor none d, .bor none d', .dead, .own (.int (0 + (i : Int)))], by simp, rfl, ?_⟩
  unfold cmpS
  simp only [ev_fCall, ev_aCons, ev_fOp, ev_fVar, ev_getS, gt0, gt1, gt3, Rs.bind_ok, Rs.map_ok, ev_aNil, optR_some, hd, hd', e1, e2]
  simp [e3]
theorem look_at {κ α : Type} [DecidableEq κ] : ∀ {ks : List κ} {xs : List α} {i : Nat} {k : κ} {x : α}, ks.Nodup → ks[i]? = some k → xs[i]? = some x → look ks xs k = some x
  | [], _, _, _, _, _, h, _ => by simp at h
  | _ :: _, [], _, _, _, _, _, h => by simp at h
  | g :: ks, y :: xs, 0, k, x, _, h1, h2 => by
    simp at h1 h2
    subst h1 h2
    unfold look
    rw [if_pos rfl]
  | g :: ks, y :: xs, i + 1, k, x, hn, h1, h2 => by
    rw [List.nodup_cons] at hn
    unfold look
    have hne : ¬ g = k := fun z => hn.1 (by rw [z]; exact List.mem_of_getElem? (i := i) (by simpa using h1))
    rw [if_neg hne]
    exact look_at hn.2 (by simpa using h1) (by simpa using h2)
theorem keyD_keyV (k : Key) : keyD (keyV k) = some k := by cases k <;> rfl
def bodyD (F : List D → Fo) : FS := (fIfS (fOr (fB (fOp oNotInAny (aCons (fVar 2) (aCons (fVar 0) aNil)))) (fNot (fB (fCall F [false, false] ar__law_same_2_ [.val (.bor 0), .val (.bor 1)] (aCons (fOp oItm (aCons (fVar 0) (aCons (fVar 2) aNil))) (aCons (fOp oItm (aCons (fVar 1) (aCons (fVar 2) aNil))) aNil)))))) (fRet (fC (.bl false))) fNext)
theorem same_dic {F : List D → Fo} {d d' : D} {ks : List Key} {md : Md} (hm : md = .own ∨ md = .bor none) (h : ∀ k ∈ ks, ∃ x y, oItm [d, keyV k] = some x ∧ oItm [d', keyV k] = some y ∧ oNotInAny [keyV k, d] = some (.bl false) ∧ F [x, y] = .ret (.bl true) []) :
    ∃ s, loopD (gChk md (gNm 2)) (bodyD F) (ks.map keyV) [.bor none d, .bor none d', .dead, .dead] = .nxt [.bor none d, .bor none d', s, .dead] := by
  obtain ⟨e', a, s, rfl, hs⟩ := loop_ix (g := gChk md (gNm 2)) (fb := bodyD F) keyV ks (fun p e => ∃ s, e = [.bor none d, .bor none d', s, .dead] ∧ SlF s) [.bor none d, .bor none d', .dead, .dead] ⟨.dead, rfl, by simp⟩ (by
    rintro p k q e hl ⟨s, rfl, hs⟩
    obtain ⟨x, y, e1, e2, e3, e4⟩ := h k (by rw [hl]; exact List.mem_append_right _ (List.mem_cons_self ..))
    have hf : (keyV k).frz = true := by cases k <;> rfl
    unfold stepI bodyD
    rcases hm with rfl | rfl <;> simp [e1, e2, e3, e4, hf])
  exact ⟨s, a⟩
theorem itm_dic {o : Bool} {ks : List Key} {xs : List D} {i : Nat} {k : Key} {x : D} (hn : ks.Nodup) (h1 : ks[i]? = some k) (h2 : xs[i]? = some x) : oItm [.node o (.dic ks) xs, keyV k] = some x ∧ oNotInAny [keyV k, .node o (.dic ks) xs] = some (.bl false) := by
  have hg : dget (.node o (.dic ks) xs) (keyV k) = some (some x) := by
    show (keyD (keyV k)).map (look ks xs) = _
    rw [keyD_keyV, ← look_at hn h1 h2]
    rfl
  constructor
  · show (dget (.node o (.dic ks) xs) (keyV k)).bind id = _
    rw [hg]
    rfl
  · show (dget (.node o (.dic ks) xs) (keyV k)).map (fun o => D.bl (!o.isSome)) = _
    rw [hg]
    rfl
theorem same_true : ∀ (n : Nat) (d d' : D), Pln n d → d.fz = d'.fz → F__law_same_n n [d, d'] = .ret (.bl true) []
  | 0, d, d', h, _ => h.elim
  | n + 1, .non, d', h, e => by
    cases d' <;> simp only [D.fz] at e <;> first | cases e | skip
    unfold F__law_same_n runF B__law_same
    simp [tab_bool, tyKD, look2]
  | n + 1, .bl b, d', h, e => by
    cases d' <;> simp only [D.fz] at e <;> first | cases e | skip
    unfold F__law_same_n runF B__law_same
    simp [tab_bool, tyKD, look2]
  | n + 1, .int b, d', h, e => by
    cases d' <;> simp only [D.fz] at e <;> first | cases e | skip
    unfold F__law_same_n runF B__law_same
    simp [tab_bool, tab_int, tyKD, look2]
  | n + 1, .str b, d', h, e => by
    cases d' <;> simp only [D.fz] at e <;> first | cases e | skip
    unfold F__law_same_n runF B__law_same
    simp [tab_bool, tab_int, tab_str, tyKD, look2]
  | n + 1, .node o s xs, .node o' s' ys, h, e => by
    simp only [D.fz, D.node.injEq, true_and] at e
    obtain ⟨rfl, e⟩ := e
    obtain ⟨hl, hg⟩ := fz_get e
    have hf : xs.length ≤ 100000 ∧ (∀ x ∈ xs, Pln n x) ∧ (s = .lst ∨ s = .tup ∨ ∃ ks, s = .dic ks ∧ xs.length = ks.length ∧ ks.Nodup) := by
      cases s with
      | lst => exact ⟨h.1, h.2, .inl rfl⟩
      | tup => exact ⟨h.1, h.2, .inr (.inl rfl)⟩
      | dic ks => exact ⟨h.1.1, h.1.2, .inr (.inr ⟨ks, rfl, h.2.1, h.2.2⟩)⟩
      | _ => exact h.elim
    obtain ⟨h1, h2, h3⟩ := hf
    have hI : ∀ (i : Nat) (x y : D), xs[i]? = some x → ys[i]? = some y → F__law_same_n n [x, y] = .ret (.bl true) [] := fun i x y hx hy => same_true n x y (h2 x (List.mem_of_getElem? hx)) (hg i x y hx hy)
    have hb := blsD_true (l := List.range ys.length)
    have hn1 : (ys.length : Int) < 1000000 := by omega
    have hn2 : ys.length ≤ 16777216 := by omega
    unfold F__law_same_n runF B__law_same
    rcases h3 with rfl | rfl | ⟨ks, rfl, hk, hn⟩
    · have hc := cmpS_all (F := F__law_same_n n) (d := .node o .lst xs) (d' := .node o' .lst ys) (xs := xs) (ys := ys) (fun _ => rfl) (fun _ => rfl) hl hI
      unfold cmpS at hc
      simp [tab_bool, tab_int, tab_str, tab_dict, tab_list, tab_tuple, tyKD, look2, hl, hc, hb, hn1, hn2]
    · have hc := cmpS_all (F := F__law_same_n n) (d := .node o .tup xs) (d' := .node o' .tup ys) (xs := xs) (ys := ys) (fun _ => rfl) (fun _ => rfl) hl hI
      unfold cmpS at hc
      simp [tab_bool, tab_int, tab_str, tab_dict, tab_list, tab_tuple, tyKD, look2, hl, hc, hb, hn1, hn2]
    · have hd := fun md hm => same_dic (F := F__law_same_n n) (d := .node o (.dic ks) xs) (d' := .node o' (.dic ks) ys) (ks := ks) (md := md) hm (by
        intro k hk'
        obtain ⟨i, hi, hki⟩ := List.mem_iff_getElem.mp hk'
        have g1 : ks[i]? = some k := by rw [List.getElem?_eq_getElem hi, hki]
        have g2 : xs[i]? = some (xs[i]'(by omega)) := List.getElem?_eq_getElem (by omega)
        have g3 : ys[i]? = some (ys[i]'(by omega)) := List.getElem?_eq_getElem (by omega)
        exact ⟨_, _, (itm_dic hn g1 g2).1, (itm_dic hn g1 g3).1, (itm_dic hn g1 g2).2, hI i _ _ g2 g3⟩)
      obtain ⟨s1, d1⟩ := hd .own (.inl rfl)
      obtain ⟨s2, d2⟩ := hd (.bor none) (.inr rfl)
      unfold bodyD at d1 d2
      have hk1 : (ks.length : Int) < 1000000 := by omega
      have hk2 : ks.length ≤ 16777216 := by omega
      have hl1 : ys.length = ks.length := by omega
      by_cases hz : (D.node o' (.dic ks) ys).frz = true <;> simp [walkD, mdOf, hz, tab_bool, tab_int, tab_str, tab_dict, tab_list, tab_tuple, tyKD, look2, hl, hk, hl1, d1, d2, hn1, hn2, hk1, hk2]
  | n + 1, .node _ _ _, .non, _, e => by simp only [D.fz] at e; cases e
  | n + 1, .node _ _ _, .bl _, _, e => by simp only [D.fz] at e; cases e
  | n + 1, .node _ _ _, .int _, _, e => by simp only [D.fz] at e; cases e
  | n + 1, .node _ _ _, .str _, _, e => by simp only [D.fz] at e; cases e
  | n + 1, .node _ _ _, .ob _, _, e => by simp only [D.fz] at e; cases e
  | n + 1, .node _ _ _, .ty _, _, e => by simp only [D.fz] at e; cases e
  | n + 1, .node _ _ _, .scr _, _, e => by simp only [D.fz] at e; cases e
  | n + 1, .ob _, _, h, _ => h.elim
  | n + 1, .ty _, _, h, _ => h.elim
  | n + 1, .scr _, _, h, _ => h.elim
end My
namespace My
open PySem PySem.Spec L2 DL PL
section
variable {s0 : Sl} {env : Evn}
@[simp] theorem ev_fFrE {f : FE} : fFrE f (s0 :: env) = (f (s0 :: env)).bind fun d e => .ok d.fz e := (rfl)
@[simp] theorem ev_fSm {g : Str → D → Option D} {f fa : FE} : fSm g f fa (s0 :: env) = (f (s0 :: env)).bind fun d e1 => match d with
  | .str z => (fa e1).bind fun y e2 => optR (g z y) e2
  | _ => .stuck := (rfl)
@[simp] theorem ev_fTryN {fb : FS} : fTryN fb (s0 :: env) = match fb (s0 :: env) with
  | .exc _ _ _ => .stuck
  | o => o := (rfl)
@[simp] theorem ev_fGet2 {f : FE} {g : FA} : fGet2 f g (s0 :: env) = (f (s0 :: env)).bind fun d e => if isDic2 d = true then (g e).bind fun ds e2 => optR (oGet2 d ds) e2 else .stuck := (rfl)
@[simp] theorem ev_fAugI {i : Nat} {f : FE} : fAugI i f (s0 :: env) = match getS (s0 :: env) i with
  | some (.int a) => (f (s0 :: env)).so fun d e => (match d with
    | .int b => optS (gNm i .own (.int (a + b)) e)
    | _ => .stuck)
  | _ => .stuck := (rfl)
@[simp] theorem ev_fLcM {n : Nat} {vs : List Nat} {fI : Evn → Rs (Md × List D × Bool)} {gD : Md → D → Evn → Option Evn} {ft : FT} {fe : FE} : fLcM n vs fI gD ft fe (s0 :: env) = (fI (s0 :: env)).bind fun y e1 =>
  if (e1.length = n ∧ (vs.all fun j => decide (j < n)) = true) ∧ flat y.1 = true ∧ y.2.2 = false then (match compM vs (gChk y.1 gD) ft fe y.2.1 (deadM vs e1) with
    | some (ds, e2) => if ds.length ≤ sizeLine then .ok (.node true .lst ds) (deadM vs e2) else .stuck
    | none => .stuck) else .stuck := (rfl)
end
theorem oIn_pair (x a b : Str) (o : Bool) : oInAny [.str x, .node o .tup [.str a, .str b]] = some (.bl (decide (x = a) || decide (x = b))) := by
  have h := oIn_str x o [a, b]
  have e : oInAny [.str x, .node o .tup [.str a, .str b]] = oInAny [.str x, .node o .lst ([a, b].map .str)] := rfl
  rw [e, h]
  simp
theorem oIn_pairL (x a b : Str) (o : Bool) : oInAny [.str x, .node o .lst [.str a, .str b]] = some (.bl (decide (x = a) || decide (x = b))) := by
  have q := oIn_str x o [a, b]
  rw [show ([a, b] : List Str).map D.str = [.str a, .str b] from rfl] at q
  rw [q]
  simp
@[simp] theorem sw_0_1 : (Str.ofString "ours" = Str.ofString "weather") = False := eq_false (by decide)
@[simp] theorem sw_0_2 : (Str.ofString "ours" = Str.ofString "within") = False := eq_false (by decide)
@[simp] theorem sw_0_3 : (Str.ofString "ours" = Str.ofString "then") = False := eq_false (by decide)
@[simp] theorem sw_0_4 : (Str.ofString "ours" = Str.ofString "beside") = False := eq_false (by decide)
@[simp] theorem sw_0_5 : (Str.ofString "ours" = Str.ofString "either") = False := eq_false (by decide)
@[simp] theorem sw_1_0 : (Str.ofString "weather" = Str.ofString "ours") = False := eq_false (by decide)
@[simp] theorem sw_1_2 : (Str.ofString "weather" = Str.ofString "within") = False := eq_false (by decide)
@[simp] theorem sw_1_3 : (Str.ofString "weather" = Str.ofString "then") = False := eq_false (by decide)
@[simp] theorem sw_1_4 : (Str.ofString "weather" = Str.ofString "beside") = False := eq_false (by decide)
@[simp] theorem sw_1_5 : (Str.ofString "weather" = Str.ofString "either") = False := eq_false (by decide)
@[simp] theorem sw_2_0 : (Str.ofString "within" = Str.ofString "ours") = False := eq_false (by decide)
@[simp] theorem sw_2_1 : (Str.ofString "within" = Str.ofString "weather") = False := eq_false (by decide)
@[simp] theorem sw_2_3 : (Str.ofString "within" = Str.ofString "then") = False := eq_false (by decide)
@[simp] theorem sw_2_4 : (Str.ofString "within" = Str.ofString "beside") = False := eq_false (by decide)
@[simp] theorem sw_2_5 : (Str.ofString "within" = Str.ofString "either") = False := eq_false (by decide)
@[simp] theorem sw_3_0 : (Str.ofString "then" = Str.ofString "ours") = False := eq_false (by decide)
@[simp] theorem sw_3_1 : (Str.ofString "then" = Str.ofString "weather") = False := eq_false (by decide)
@[simp] theorem sw_3_2 : (Str.ofString "then" = Str.ofString "within") = False := eq_false (by decide)
@[simp] theorem sw_3_4 : (Str.ofString "then" = Str.ofString "beside") = False := eq_false (by decide)
@[simp] theorem sw_3_5 : (Str.ofString "then" = Str.ofString "either") = False := eq_false (by decide)
@[simp] theorem sw_4_0 : (Str.ofString "beside" = Str.ofString "ours") = False := eq_false (by decide)
@[simp] theorem sw_4_1 : (Str.ofString "beside" = Str.ofString "weather") = False := eq_false (by decide)
@[simp] theorem sw_4_2 : (Str.ofString "beside" = Str.ofString "within") = False := eq_false (by decide)
@[simp] theorem sw_4_3 : (Str.ofString "beside" = Str.ofString "then") = False := eq_false (by decide)
@[simp] theorem sw_4_5 : (Str.ofString "beside" = Str.ofString "either") = False := eq_false (by decide)
@[simp] theorem sw_5_0 : (Str.ofString "either" = Str.ofString "ours") = False := eq_false (by decide)
@[simp] theorem sw_5_1 : (Str.ofString "either" = Str.ofString "weather") = False := eq_false (by decide)
@[simp] theorem sw_5_2 : (Str.ofString "either" = Str.ofString "within") = False := eq_false (by decide)
@[simp] theorem sw_5_3 : (Str.ofString "either" = Str.ofString "then") = False := eq_false (by decide)
@[simp] theorem sw_5_4 : (Str.ofString "either" = Str.ofString "beside") = False := eq_false (by decide)
inductive Wk where
  | th | be | ei
  deriving DecidableEq
def Wk.nm : Wk → Str
  | .th => "then"
  | .be => "beside"
  | .ei => "either"
inductive Pl where
  | ours (a b : Int) | wea (a b : Int) (c : Option Int) | wit (m : Int) (p : Pl) | many (w : Wk) (ps : List Pl)
mutual
def Pl.d : Pl → D
  | .ours a b => .node false .tup [.str "ours", .int a, .int b]
  | .wea a b c => .node false .tup [.str "weather", .int a, .int b, oD c]
  | .wit m p => .node false .tup [.str "within", .int m, p.d]
  | .many w ps => .node false .tup [.str w.nm, .node false .lst (plsD ps)]
def plsD : List Pl → List D
  | [] => []
  | p :: ps => p.d :: plsD ps
end
theorem plsD_eq : ∀ ps : List Pl, plsD ps = ps.map Pl.d
  | [] => rfl
  | p :: ps => by rw [plsD, plsD_eq ps]; rfl
mutual
def Pl.dep : Pl → Nat
  | .ours _ _ => 1
  | .wea _ _ _ => 1
  | .wit _ p => 1 + p.dep
  | .many _ ps => 1 + depL ps
def depL : List Pl → Nat
  | [] => 0
  | p :: ps => max p.dep (depL ps)
end
theorem depL_le {ps : List Pl} {n : Nat} : depL ps ≤ n ↔ ∀ p ∈ ps, p.dep ≤ n := by
  induction ps with
  | nil => simp [depL]
  | cons p ps ih => simp only [depL, List.mem_cons, forall_eq_or_imp, ← ih]; omega
theorem dep_pos (p : Pl) : 1 ≤ p.dep := by cases p <;> simp [Pl.dep]
def Pl.kids : Pl → List Pl
  | .ours _ _ => []
  | .wea _ _ _ => []
  | .wit _ p => [p]
  | .many _ ps => ps
def Pl.kfl : Pl → Bool
  | .many _ _ => false
  | _ => true
theorem dep_kids {p : Pl} {n : Nat} (h : p.dep ≤ n + 1) : ∀ q ∈ p.kids, q.dep ≤ n := by
  intro q hq
  cases p with
  | ours a b => cases hq
  | wea a b c => cases hq
  | wit m p =>
    obtain rfl := List.mem_singleton.mp hq
    simp only [Pl.dep] at h
    omega
  | many w ps =>
    simp only [Pl.dep] at h
    exact depL_le.mp (show depL ps ≤ n by omega) q hq
theorem dep_eq (p : Pl) : p.dep = 1 + depL p.kids := by cases p <;> simp [Pl.dep, Pl.kids, depL]
mutual
theorem Pl.frz : ∀ p : Pl, p.d.frz = true
  | .ours a b => rfl
  | .wea a b c => by cases c <;> rfl
  | .wit m p => by
    have h := Pl.frz p
    simp [Pl.d, D.frz, frzL, h]
  | .many w ps => by
    have h := plsD_frz ps
    simp [Pl.d, D.frz, frzL, h]
theorem plsD_frz : ∀ ps : List Pl, frzL (plsD ps) = true
  | [] => rfl
  | p :: ps => by
    have h1 := Pl.frz p
    have h2 := plsD_frz ps
    simp [plsD, frzL, h1, h2]
end
@[simp] theorem Pl.frzS (p : Pl) : p.d.frz = true := p.frz
@[simp] theorem plsM_frz (ps : List Pl) : frzL (ps.map Pl.d) = true := by rw [← plsD_eq]; exact plsD_frz ps
theorem Pl.fz (p : Pl) : p.d.fz = p.d := fz_of_frz _ p.frz
def Pl.wd : Pl → Str
  | .ours _ _ => "ours"
  | .wea _ _ _ => "weather"
  | .wit _ _ => "within"
  | .many w _ => w.nm
theorem Wk.ne (w : Wk) : w.nm ≠ "ours" ∧ w.nm ≠ "weather" ∧ w.nm ≠ "within" := by cases w <;> decide
theorem Wk.ei_iff (w : Wk) : w.nm = "either" ↔ w = .ei := by cases w <;> decide
theorem kids_ok (p : Pl) : F__law_kids [p.d] = .ret (.node p.kfl .lst (p.kids.map Pl.d)) [] := by
  unfold F__law_kids runF B__law_kids
  cases p with
  | ours a b => simp [Pl.d, Pl.kids, Pl.kfl, oIn_pairL]
  | wea a b c => cases c <;> simp [Pl.d, Pl.kids, Pl.kfl, oIn_pairL, oD]
  | wit m p => simp [Pl.d, Pl.kids, Pl.kfl, oIn_pairL]
  | many w ps => simp [Pl.d, Pl.kids, Pl.kfl, oIn_pairL, w.ne, plsD_eq]
theorem parts_ok (p : Pl) : F_parts_of [p.d] = .ret (.node p.kfl .lst (p.kids.map Pl.d)) [] := by
  unfold F_parts_of runF B_parts_of
  cases p with
  | ours a b => simp [Pl.d, Pl.kids, Pl.kfl, oIn_pair]
  | wea a b c => cases c <;> simp [Pl.d, Pl.kids, Pl.kfl, oIn_pair, oD]
  | wit m p => simp [Pl.d, Pl.kids, Pl.kfl, oIn_pair]
  | many w ps => simp [Pl.d, Pl.kids, Pl.kfl, oIn_pair, w.ne, plsD_eq]
end My
namespace My
open PySem PySem.Spec L2 DL PL
mutual
def Pl.sm : Pl → Prop
  | .ours _ _ => True
  | .wea _ _ _ => True
  | .wit _ p => p.sm
  | .many _ ps => ps.length ≤ 100 ∧ smL ps
def smL : List Pl → Prop
  | [] => True
  | p :: ps => p.sm ∧ smL ps
end
theorem smL_iff {ps : List Pl} : smL ps ↔ ∀ p ∈ ps, p.sm := by
  induction ps with
  | nil => simp [smL]
  | cons p ps ih => simp only [smL, List.mem_cons, forall_eq_or_imp, ih]
theorem sm_kids {p : Pl} (h : p.sm) : p.kids.length ≤ 100 ∧ ∀ q ∈ p.kids, q.sm := by
  cases p with
  | ours a b => exact ⟨by simp [Pl.kids], fun q hq => nomatch hq⟩
  | wea a b c => exact ⟨by simp [Pl.kids], fun q hq => nomatch hq⟩
  | wit m p => exact ⟨by simp [Pl.kids], fun q hq => by obtain rfl := List.mem_singleton.mp hq; exact h⟩
  | many w ps => exact ⟨h.1, smL_iff.mp h.2⟩
mutual
def Pl.lc : Pl → Int
  | .ours _ _ => 1
  | .wea _ _ _ => 1
  | .wit _ p => p.lc
  | .many _ [] => 1
  | .many _ (p :: ps) => p.lc + lcL ps
def lcL : List Pl → Int
  | [] => 0
  | p :: ps => p.lc + lcL ps
end
theorem lcL_eq : ∀ ps : List Pl, lcL ps = (ps.map Pl.lc).sum
  | [] => rfl
  | p :: ps => by rw [lcL, lcL_eq ps]; rfl
theorem lc_eq (p : Pl) : p.lc = if p.kids = [] then 1 else (p.kids.map Pl.lc).sum := by
  cases p with
  | ours a b => rfl
  | wea a b c => rfl
  | wit m p => simp [Pl.kids, Pl.lc]
  | many w ps => cases ps with
    | nil => rfl
    | cons q ps => simp [Pl.kids, Pl.lc, lcL_eq]
@[simp] theorem intsD_map (l : List Pl) (f : Pl → Int) : intsD (l.map fun p => D.int (f p)) = some (l.map f) := by
  induction l with
  | nil => rfl
  | cons p l ih => rw [List.map_cons, intsD, ih]; rfl
@[simp] theorem oEq0_l {o o2 : Bool} {xs : List D} : oEq0 true [.node o .lst xs, .node o2 .lst []] = some (.bl (decide (xs = []))) := by cases xs <;> rfl
@[simp] theorem oSum_l {o : Bool} {xs : List D} {ns : List Int} (h : intsD xs = some ns) : oSum [.node o .lst xs] = some (.int ns.sum) := by
  show (intsD xs).map (fun bs => D.int bs.sum) = _
  rw [h]
  rfl
theorem leaf_count_ok : ∀ (n : Nat) (p : Pl), p.dep ≤ n → p.sm → F__law_leaf_count_n n [p.d] = .ret (.int p.lc) []
  | 0, p, h, _ => absurd (dep_pos p) (by omega)
  | n + 1, p, h, hs => by
    have k := kids_ok p
    obtain ⟨s1, s2⟩ := sm_kids hs
    have ih : ∀ q ∈ p.kids, F__law_leaf_count_n n [q.d] = .ret (.int q.lc) [] := fun q hq => leaf_count_ok n q (dep_kids h q hq) (s2 q hq)
    have e := lc_eq p
    unfold F__law_leaf_count_n runF B__law_leaf_count
    generalize p.kids = ks at *
    generalize p.kfl = fl at *
    have c : ∀ md s1, (md = .own ∨ md = .bor none ∨ (md = .bor (some 1) ∧ ∃ x, s1 = .bor (some 1) x)) → compD (gChk md (gNm 2)) fYes (fCall (F__law_leaf_count_n n) [false] ar__law_leaf_count_1_ [.val (.bor 2)] (aCons (fVar 2) aNil)) [.bor none p.d, s1, .dead] (ks.map Pl.d) = some (ks.map fun q => .int q.lc) := fun md s1 hm =>
      compD_map fun q hq => by
        have r := ih q hq
        rcases hm with rfl | rfl | ⟨rfl, x, rfl⟩ <;> exact ⟨[.bor none p.d, _, .own q.d], [.bor none p.d, _, .own q.d], [.bor none p.d, _, .own q.d], by simp; rfl, by simp; rfl, by simp [r]; rfl⟩
    have c1 := fun s1 => c .own s1 (.inl rfl)
    have c2 := fun s1 => c (.bor none) s1 (.inr (.inl rfl))
    have c3 := fun x => c (.bor (some 1)) (.bor (some 1) x) (.inr (.inr ⟨rfl, x, rfl⟩))
    have s6 : ks.length ≤ 16777216 := by omega
    by_cases hz : ks = []
    · subst hz
      rw [if_pos rfl] at e
      simp [k, e]
    · rw [if_neg hz] at e
      cases fl <;> simp [k, e, c1, c2, c3, hz, s6, oSum_l (intsD_map ks Pl.lc)]
end My
namespace My
open PySem PySem.Spec L2 DL PL
@[simp] theorem max2_i (i j : Int) : oMax2 [.int i, .int j] = some (.int (max i j)) := by
  show some (D.int (if j > i then j else i)) = _
  congr 2
  by_cases h : j > i
  · rw [if_pos h, Int.max_eq_right (by omega)]
  · rw [if_neg h, Int.max_eq_left (by omega)]
mutual
theorem lc_pos : ∀ p : Pl, 1 ≤ p.lc
  | .ours _ _ => by simp [Pl.lc]
  | .wea _ _ _ => by simp [Pl.lc]
  | .wit _ p => by
    have := lc_pos p
    simpa [Pl.lc] using this
  | .many _ [] => by simp [Pl.lc]
  | .many _ (p :: ps) => by
    have h1 := lc_pos p
    have h2 := lcL_pos ps
    simp only [Pl.lc]
    omega
theorem lcL_pos : ∀ ps : List Pl, 0 ≤ lcL ps
  | [] => by simp [lcL]
  | p :: ps => by
    have h1 := lc_pos p
    have h2 := lcL_pos ps
    simp only [lcL]
    omega
end
theorem lc_max (p : Pl) : max 1 (p.kids.map Pl.lc).sum = p.lc := by
  have h := lc_eq p
  have h1 := lc_pos p
  by_cases hz : p.kids = []
  · rw [if_pos hz] at h
    rw [h, hz]
    rfl
  · rw [if_neg hz] at h
    rw [← h, Int.max_eq_right h1]
@[simp] theorem plsM_fz (ps : List Pl) : fzL (ps.map Pl.d) = ps.map Pl.d := fzL_of_frz _ (plsM_frz ps)
theorem leaves_ok : ∀ (n : Nat) (p : Pl), p.dep ≤ n → p.sm → F_leaves_n n [p.d] = .ret (.int p.lc) []
  | 0, p, h, _ => absurd (dep_pos p) (by omega)
  | n + 1, p, h, hs => by
    have k := parts_ok p
    obtain ⟨s1, s2⟩ := sm_kids hs
    have ih : ∀ q ∈ p.kids, F_leaves_n n [q.d] = .ret (.int q.lc) [] := fun q hq => leaves_ok n q (dep_kids h q hq) (s2 q hq)
    have e := lc_max p
    unfold F_leaves_n runF B_leaves
    generalize p.kids = ks at *
    generalize p.kfl = fl at *
    have c : compD (gChk .own (gNm 1)) fYes (fCall (F_leaves_n n) [false] ar_leaves_1_ [.val (.bor 1)] (aCons (fVar 1) aNil)) [.bor none p.d, .dead] (ks.map Pl.d) = some (ks.map fun q => .int q.lc) :=
      compD_map fun q hq => by
        have r := ih q hq
        exact ⟨[.bor none p.d, .own q.d], [.bor none p.d, .own q.d], [.bor none p.d, .own q.d], by simp, by simp, by simp [r]⟩
    have s6 : ks.length ≤ 16777216 := by omega
    cases fl <;> simp [k, e, c, s6, oSum_l (intsD_map ks Pl.lc)]
theorem depL_max (ks : List Pl) : (maxI (ks.map fun q => (q.dep : Int))).getD 0 = (depL ks : Int) := by
  cases h : maxI (ks.map fun q => (q.dep : Int)) with
  | none => cases ks with
    | nil => rfl
    | cons q ks => cases h
  | some m =>
    obtain ⟨h1, h2⟩ := maxI_ok h
    obtain ⟨q, hq, rfl⟩ := List.mem_map.mp h1
    have a : q.dep ≤ depL ks := (depL_le (n := depL ks)).mp (Nat.le_refl _) q hq
    have b : depL ks ≤ q.dep := depL_le.mpr fun r hr => by
      have := h2 _ (List.mem_map.mpr ⟨r, hr, rfl⟩)
      omega
    show (q.dep : Int) = _
    omega
@[simp] theorem oMaxD_l {o : Bool} {xs : List D} {ns : List Int} (h : intsD xs = some ns) : oMaxD 0 [.node o .lst xs] = some (.int ((maxI ns).getD 0)) := by
  show (intsD xs).map (fun ns => D.int ((maxI ns).getD 0)) = _
  rw [h]
  rfl
theorem plan_depth_ok : ∀ (n : Nat) (p : Pl), p.dep ≤ n → p.sm → F__law_plan_depth_n n [p.d] = .ret (.int p.dep) []
  | 0, p, h, _ => absurd (dep_pos p) (by omega)
  | n + 1, p, h, hs => by
    have k := kids_ok p
    obtain ⟨s1, s2⟩ := sm_kids hs
    have ih : ∀ q ∈ p.kids, F__law_plan_depth_n n [q.d] = .ret (.int q.dep) [] := fun q hq => plan_depth_ok n q (dep_kids h q hq) (s2 q hq)
    have e : (p.dep : Int) = 1 + (depL p.kids : Int) := by have := dep_eq p; omega
    unfold F__law_plan_depth_n runF B__law_plan_depth
    rw [e]
    generalize p.kids = ks at *
    generalize p.kfl = fl at *
    have c : compD (gChk .own (gNm 1)) fYes (fCall (F__law_plan_depth_n n) [false] ar__law_plan_depth_1_ [.val (.bor 1)] (aCons (fVar 1) aNil)) [.bor none p.d, .dead] (ks.map Pl.d) = some (ks.map fun q => .int q.dep) :=
      compD_map fun q hq => by
        have r := ih q hq
        exact ⟨[.bor none p.d, .own q.d], [.bor none p.d, .own q.d], [.bor none p.d, .own q.d], by simp, by simp, by simp [r]⟩
    have s6 : ks.length ≤ 16777216 := by omega
    cases fl <;> simp [k, c, s6, oMaxD_l (intsD_map ks fun q => (q.dep : Int)), depL_max]
mutual
def Pl.rc : Pl → Int
  | .ours _ _ => 1
  | .wea _ _ _ => 1
  | .wit _ p => p.rc
  | .many w ps => if w = .ei then rcS ps else rcP ps
def rcS : List Pl → Int
  | [] => 0
  | p :: ps => p.rc + rcS ps
def rcP : List Pl → Int
  | [] => 1
  | p :: ps => p.rc * rcP ps
end
theorem rcS_eq : ∀ ps : List Pl, rcS ps = (ps.map Pl.rc).sum
  | [] => rfl
  | p :: ps => by rw [rcS, rcS_eq ps]; rfl
def mulUp : Int → List Pl → Int
  | a, [] => a
  | a, p :: ps => mulUp (a * p.rc) ps
theorem mulUp_eq : ∀ (ps : List Pl) (a : Int), mulUp a ps = a * rcP ps
  | [], a => by simp [mulUp, rcP]
  | p :: ps, a => by rw [mulUp, mulUp_eq ps, rcP, Int.mul_assoc]
def Pl.isEi : Pl → Bool
  | .many .ei _ => true
  | _ => false
theorem rc_eq (p : Pl) : p.rc = if p.isEi = true then (p.kids.map Pl.rc).sum else mulUp 1 p.kids := by
  cases p with
  | ours a b => simp [Pl.isEi, Pl.kids, mulUp, Pl.rc]
  | wea a b c => simp [Pl.isEi, Pl.kids, mulUp, Pl.rc]
  | wit m p => simp [Pl.isEi, Pl.kids, mulUp, Pl.rc]
  | many w ps => cases w <;> simp [Pl.isEi, Pl.kids, Pl.rc, rcS_eq, mulUp_eq]
theorem wd_at (p : Pl) : oItm [p.d, .int 0] = some (.str p.wd) := by
  cases p <;> simp [Pl.d, Pl.wd]
theorem ei_wd (p : Pl) : (p.wd = "either") ↔ p.isEi = true := by
  cases p with
  | ours a b => simp [Pl.wd, Pl.isEi]
  | wea a b c => simp [Pl.wd, Pl.isEi]
  | wit m p => simp [Pl.wd, Pl.isEi]
  | many w ps => cases w <;> simp [Pl.wd, Wk.nm, Pl.isEi]
theorem ei_kids {p : Pl} (h : p.isEi = true) : oItm [p.d, .int 1] = some (.node false .lst (p.kids.map Pl.d)) := by
  cases p with
  | ours a b => simp [Pl.isEi] at h
  | wea a b c => simp [Pl.isEi] at h
  | wit m p => simp [Pl.isEi] at h
  | many w ps => simp [Pl.d, Pl.kids, plsD_eq]
end My
namespace My
open PySem PySem.Spec L2 DL PL
theorem pow1 (n : Nat) : (1 : Int) ≤ 2 ^ n := by
  have : (0 : Int) < 2 ^ n := Int.pow_pos (by decide)
  omega
theorem pow_mono {a b : Nat} (h : a ≤ b) : (2 : Int) ^ a ≤ 2 ^ b := by
  obtain ⟨c, rfl⟩ : ∃ c, b = a + c := ⟨b - a, by omega⟩
  rw [Int.pow_add]
  have h1 := pow1 a
  have h2 := pow1 c
  have h3 : (2 : Int) ^ a * 1 ≤ 2 ^ a * 2 ^ c := Int.mul_le_mul_of_nonneg_left h2 (by omega)
  rw [Int.mul_one] at h3
  exact h3
theorem mul_up {A B : Int} (hA : 1 ≤ A) (hB : 1 ≤ B) : A + B ≤ A * B + 1 := by
  have h4 : (0 : Int) ≤ (A - 1) * (B - 1) := Int.mul_nonneg (by omega) (by omega)
  rw [Int.sub_mul, Int.mul_sub, Int.mul_one, Int.one_mul] at h4
  generalize A * B = C at *
  omega
theorem mul_le {x y A B : Int} (hx : x ≤ A - 1) (hx0 : 0 ≤ x) (hy : y ≤ B) (hy0 : 0 ≤ y) (hA : 1 ≤ A) (hB : 1 ≤ B) : x * y ≤ A * B - 1 := by
  have h : x * y ≤ (A - 1) * B := Int.mul_le_mul hx hy hy0 (by omega)
  rw [Int.sub_mul, Int.one_mul] at h
  generalize A * B = C at *
  omega
mutual
theorem rc_le : ∀ p : Pl, 0 ≤ p.rc ∧ p.rc ≤ 2 ^ p.lc.toNat - 1
  | .ours _ _ => by simp [Pl.rc, Pl.lc]
  | .wea _ _ _ => by simp [Pl.rc, Pl.lc]
  | .wit _ p => by
    have := rc_le p
    simpa [Pl.rc, Pl.lc] using this
  | .many w [] => by cases w <;> simp [Pl.rc, Pl.lc, rcS, rcP]
  | .many w (p :: ps) => by
    obtain ⟨a1, a2⟩ := rc_le p
    obtain ⟨b1, b2, b3, b4⟩ := rcL_le ps
    have e : (p.lc + lcL ps).toNat = p.lc.toNat + (lcL ps).toNat := Int.toNat_add (by have := lc_pos p; omega) (lcL_pos ps)
    simp only [Pl.rc, Pl.lc, rcS, rcP]
    rw [e, Int.pow_add]
    have p1 := pow1 p.lc.toNat
    have p2 := pow1 (lcL ps).toNat
    generalize (2 : Int) ^ p.lc.toNat = A at *
    generalize (2 : Int) ^ (lcL ps).toNat = B at *
    have m1 := mul_up p1 p2
    have m2 := mul_le a2 a1 b4 b3 p1 p2
    have m3 := Int.mul_nonneg a1 b3
    generalize A * B = C at *
    split
    · omega
    · exact ⟨m3, m2⟩
theorem rcL_le : ∀ ps : List Pl, 0 ≤ rcS ps ∧ rcS ps ≤ 2 ^ (lcL ps).toNat - 1 ∧ 0 ≤ rcP ps ∧ rcP ps ≤ 2 ^ (lcL ps).toNat
  | [] => by simp [rcS, rcP, lcL]
  | p :: ps => by
    obtain ⟨a1, a2⟩ := rc_le p
    obtain ⟨b1, b2, b3, b4⟩ := rcL_le ps
    have e : (p.lc + lcL ps).toNat = p.lc.toNat + (lcL ps).toNat := Int.toNat_add (by have := lc_pos p; omega) (lcL_pos ps)
    simp only [rcS, rcP, lcL]
    rw [e, Int.pow_add]
    have p1 := pow1 p.lc.toNat
    have p2 := pow1 (lcL ps).toNat
    generalize (2 : Int) ^ p.lc.toNat = A at *
    generalize (2 : Int) ^ (lcL ps).toNat = B at *
    have m1 := mul_up p1 p2
    have m2 := mul_le a2 a1 b4 b3 p1 p2
    have m3 := Int.mul_nonneg a1 b3
    generalize A * B = C at *
    exact ⟨by omega, by omega, m3, by omega⟩
end
theorem rc_small {p : Pl} (h : p.lc ≤ 60) : 0 ≤ p.rc ∧ p.rc < 18446744073709551616 := by
  obtain ⟨h1, h2⟩ := rc_le p
  refine ⟨h1, ?_⟩
  have : (2 : Int) ^ p.lc.toNat ≤ 2 ^ 60 := pow_mono (by omega)
  omega
theorem lcL_mem {ps : List Pl} {q : Pl} (h : q ∈ ps) : q.lc ≤ lcL ps := by
  induction ps with
  | nil => cases h
  | cons p ps ih =>
    have h1 := lc_pos p
    have h2 := lcL_pos ps
    simp only [lcL]
    rcases List.mem_cons.mp h with rfl | h
    · omega
    · have := ih h
      omega
theorem lc_kids {p q : Pl} (h : q ∈ p.kids) : q.lc ≤ p.lc := by
  have e := lc_eq p
  rw [if_neg (fun z => by rw [z] at h; cases h), ← lcL_eq] at e
  have := lcL_mem h
  omega
theorem count_loop {F : List D → Fo} {ar : List Ar} (har : ar = [.arg 0]) (p : Pl) : ∀ (ks : List Pl) (a : Int) (s2 : Sl), (∀ q ∈ ks, F [q.d] = .ret (.int q.rc) [] ∧ q.lc ≤ 60) →
    ∃ s2', loopD (gChk .own (gNm 2)) (fAsg .own (fOp oMul (aCons (fVar 1) (aCons (fCall F [false] ar [.val (.bor 2)] (aCons (fVar 2) aNil)) aNil))) (gNm 1)) (ks.map Pl.d) [.bor none p.d, .own (.int a), s2] = .nxt [.bor none p.d, .own (.int (mulUp a ks)), s2']
  | [], a, s2, _ => ⟨s2, rfl⟩
  | q :: ks, a, s2, h => by
    subst har
    obtain ⟨r, rl⟩ := h q (List.mem_cons_self ..)
    obtain ⟨r1, r2⟩ := rc_small rl
    have r3 : -18446744073709551616 < q.rc := by omega
    obtain ⟨s2', ih⟩ := count_loop rfl p ks (a * q.rc) (.own q.d) fun r hr => h r (List.mem_cons_of_mem _ hr)
    refine ⟨s2', ?_⟩
    rw [List.map_cons]
    unfold loopD
    simp [r, r2, r3]
    exact ih
theorem reading_count_ok : ∀ (n : Nat) (p : Pl), p.dep ≤ n → p.sm → p.lc ≤ 60 → F__law_reading_count_n n [p.d] = .ret (.int p.rc) []
  | 0, p, h, _, _ => absurd (dep_pos p) (by omega)
  | n + 1, p, h, hs, hlc => by
    have k := kids_ok p
    obtain ⟨s1, s2⟩ := sm_kids hs
    have ih : ∀ q ∈ p.kids, F__law_reading_count_n n [q.d] = .ret (.int q.rc) [] := fun q hq => reading_count_ok n q (dep_kids h q hq) (s2 q hq) (Int.le_trans (lc_kids hq) hlc)
    have ih2 : ∀ q ∈ p.kids, q.lc ≤ 60 := fun q hq => Int.le_trans (lc_kids hq) hlc
    have e := rc_eq p
    have w := wd_at p
    have wi := ei_wd p
    unfold F__law_reading_count_n runF B__law_reading_count
    by_cases hz : p.isEi = true
    · have ki := ei_kids hz
      rw [if_pos hz] at e
      rw [eq_true hz] at wi
      generalize p.kids = ks at *
      have c : compD (gChk (.bor none) (gNm 2)) fYes (fCall (F__law_reading_count_n n) [false] ar__law_reading_count_1_ [.val (.bor 2)] (aCons (fVar 2) aNil)) [.bor none p.d, .dead, .dead] (ks.map Pl.d) = some (ks.map fun q => .int q.rc) :=
        compD_map fun q hq => by
          have r := ih q hq
          exact ⟨[.bor none p.d, .dead, .own q.d], [.bor none p.d, .dead, .own q.d], [.bor none p.d, .dead, .own q.d], by simp, by simp, by simp [r]⟩
      have s6 : ks.length ≤ 16777216 := by omega
      have c' : compD (gChk .own (gNm 2)) fYes (fCall (F__law_reading_count_n n) [false] ar__law_reading_count_1_ [.val (.bor 2)] (aCons (fVar 2) aNil)) [.bor none p.d, .dead, .dead] (ks.map Pl.d) = some (ks.map fun q => .int q.rc) :=
        compD_map fun q hq => by
          have r := ih q hq
          exact ⟨[.bor none p.d, .dead, .own q.d], [.bor none p.d, .dead, .own q.d], [.bor none p.d, .dead, .own q.d], by simp, by simp, by simp [r]⟩
      simp [w, wi, ki, c, c', s6, e, oSum_l (intsD_map ks Pl.rc)]
    · rw [if_neg hz] at e
      rw [eq_false hz] at wi
      generalize p.kids = ks at *
      generalize p.kfl = fl at *
      obtain ⟨s2', l⟩ := count_loop (ar := ar__law_reading_count_1_) rfl p ks 1 .dead fun q hq => ⟨ih q hq, ih2 q hq⟩
      cases fl <;> simp [w, wi, k, l, e]
theorem choices_ok : ∀ (n : Nat) (p : Pl), p.dep ≤ n → p.sm → p.lc ≤ 60 → F_choices_n n [p.d] = .ret (.int p.rc) []
  | 0, p, h, _, _ => absurd (dep_pos p) (by omega)
  | n + 1, p, h, hs, hlc => by
    have k := parts_ok p
    obtain ⟨s1, s2⟩ := sm_kids hs
    have ih : ∀ q ∈ p.kids, F_choices_n n [q.d] = .ret (.int q.rc) [] := fun q hq => choices_ok n q (dep_kids h q hq) (s2 q hq) (Int.le_trans (lc_kids hq) hlc)
    have ih2 : ∀ q ∈ p.kids, q.lc ≤ 60 := fun q hq => Int.le_trans (lc_kids hq) hlc
    have e := rc_eq p
    have w := wd_at p
    have wi := ei_wd p
    unfold F_choices_n runF B_choices
    by_cases hz : p.isEi = true
    · have ki := ei_kids hz
      rw [if_pos hz] at e
      rw [eq_true hz] at wi
      generalize p.kids = ks at *
      have s6 : ks.length ≤ 16777216 := by omega
      have c : ∀ md, md = .own ∨ md = .bor none → compD (gChk md (gNm 2)) fYes (fCall (F_choices_n n) [false] ar_choices_1_ [.val (.bor 2)] (aCons (fVar 2) aNil)) [.bor none p.d, .dead, .dead] (ks.map Pl.d) = some (ks.map fun q => .int q.rc) := fun md hm =>
        compD_map fun q hq => by
          have r := ih q hq
          rcases hm with rfl | rfl <;> exact ⟨[.bor none p.d, .dead, .own q.d], [.bor none p.d, .dead, .own q.d], [.bor none p.d, .dead, .own q.d], by simp, by simp, by simp [r]⟩
      simp [w, wi, ki, c, s6, e, oSum_l (intsD_map ks Pl.rc)]
    · rw [if_neg hz] at e
      rw [eq_false hz] at wi
      generalize p.kids = ks at *
      generalize p.kfl = fl at *
      obtain ⟨s2', l⟩ := count_loop (ar := ar_choices_1_) rfl p ks 1 .dead fun q hq => ⟨ih q hq, ih2 q hq⟩
      cases fl <;> simp [w, wi, k, l, e]
def inB (lo x hi : Int) : Bool := decide (lo ≤ x) && decide (x ≤ hi)
def lateB : Option Int → Bool
  | none => true
  | some x => inB 0 x 1000
mutual
def Pl.form : Pl → Bool
  | .ours a b => (inB 0 a 1000 && inB 0 b 1000) && decide (a ≤ b)
  | .wea a b c => ((inB 1 a 1000 && inB 1 b 1000) && decide (a ≤ b)) && lateB c
  | .wit m p => inB 0 m 1000 && p.form
  | .many _ ps => inB 1 ps.length 4 && formL ps
def formL : List Pl → Bool
  | [] => true
  | p :: ps => p.form && formL ps
end
theorem formL_eq (ps : List Pl) : formL ps = ps.all Pl.form := by
  induction ps with
  | nil => rfl
  | cons p ps ih => rw [formL, ih]; rfl
theorem whole_i (i lo hi : Int) : F__law_whole [.int i, .int lo, .int hi] = .ret (.bl (inB lo i hi)) [] := by
  unfold F__law_whole runF B__law_whole inB
  by_cases h : lo ≤ i <;> simp [tab_int, tab_bool, tyKD, look2, h]
theorem within_i2 (i lo hi : Int) : F_is_within [.int i, .int lo, .int hi] = .ret (.bl (inB lo i hi)) [] := by
  unfold F_is_within runF B_is_within inB
  by_cases h : lo ≤ i <;> simp [tab_int, tab_bool, tyKD, look2, h]
theorem good_leaf_o (a b : Int) : F__law_good_leaf [(Pl.ours a b).d] = .ret (.bl (Pl.ours a b).form) [] := by
  unfold F__law_good_leaf runF B__law_good_leaf
  simp [Pl.d, Pl.form, whole_i]
  cases inB 0 a 1000 <;> cases inB 0 b 1000 <;> simp [whole_i]
theorem good_leaf_w (a b : Int) (c : Option Int) : F__law_good_leaf [(Pl.wea a b c).d] = .ret (.bl (Pl.wea a b c).form) [] := by
  unfold F__law_good_leaf runF B__law_good_leaf
  cases c <;> simp [Pl.d, Pl.form, whole_i, oD, lateB] <;> cases inB 1 a 1000 <;> cases inB 1 b 1000 <;> by_cases h : a ≤ b <;> simp [whole_i, h]
end My
namespace My
open PySem PySem.Spec L2 DL PL
def szD : D := .node true (.dic [.inr "ours", .inr "weather", .inr "then", .inr "beside", .inr "either", .inr "within"]) [.int 3, .int 4, .int 2, .int 2, .int 2, .int 3]
@[simp] theorem get2_ours : oGet2 szD [.str "ours", .int (-1)] = some (.int 3) := by kernel_rfl
@[simp] theorem get2_weather : oGet2 szD [.str "weather", .int (-1)] = some (.int 4) := by kernel_rfl
@[simp] theorem get2_within : oGet2 szD [.str "within", .int (-1)] = some (.int 3) := by kernel_rfl
@[simp] theorem get2_wk (w : Wk) : oGet2 szD [.str w.nm, .int (-1)] = some (.int 2) := by cases w <;> kernel_rfl
@[simp] theorem szD_dic : isDic2 szD = true := rfl
@[simp] theorem tg_ours : oTabGet gt_SIZES [.str "ours", .int 0] = some (.int 3) := by kernel_rfl
@[simp] theorem tg_weather : oTabGet gt_SIZES [.str "weather", .int 0] = some (.int 4) := by kernel_rfl
@[simp] theorem tg_within : oTabGet gt_SIZES [.str "within", .int 0] = some (.int 3) := by kernel_rfl
@[simp] theorem tg_wk (w : Wk) : oTabGet gt_SIZES [.str w.nm, .int 0] = some (.int 2) := by cases w <;> kernel_rfl
theorem sz_e {e : Evn} {s0 : Sl} : fDic ["ours", "weather", "then", "beside", "either", "within"] (aCons (fC (.int 3)) (aCons (fC (.int 4)) (aCons (fC (.int 2)) (aCons (fC (.int 2)) (aCons (fC (.int 2)) (aCons (fC (.int 3)) aNil)))))) (s0 :: e) = .ok szD (s0 :: e) := rfl
theorem all_form {o : Bool} (ks : List Pl) : oAll [.node o .lst (ks.map fun q => D.bl q.form)] = some (.bl (ks.all Pl.form)) := by
  have q : blsD (ks.map fun q => D.bl q.form) = some (ks.map Pl.form) := blsD_map
  show (blsD _).map _ = _
  rw [q]
  simp [List.all_map]
@[simp] theorem blsF (ks : List Pl) : blsD (ks.map fun q => D.bl q.form) = some (ks.map Pl.form) := blsD_map
@[simp] theorem allF (ks : List Pl) : (ks.map Pl.form).all id = ks.all Pl.form := by rw [List.all_map]; rfl
theorem good_form_ok : ∀ (n : Nat) (p : Pl), p.dep ≤ n → p.sm → F__law_good_form_n n [p.d] = .ret (.bl p.form) []
  | 0, p, h, _ => absurd (dep_pos p) (by omega)
  | n + 1, p, h, hs => by
    obtain ⟨s1, s2⟩ := sm_kids hs
    have ih : ∀ q ∈ p.kids, F__law_good_form_n n [q.d] = .ret (.bl q.form) [] := fun q hq => good_form_ok n q (dep_kids h q hq) (s2 q hq)
    unfold F__law_good_form_n runF B__law_good_form
    cases p with
    | ours a b =>
      have g := good_leaf_o a b
      simp only [Pl.d] at g ⊢
      simp [-ev_fDic, sz_e, tab_tuple, tyKD, look2, oIn_pairL, g]
    | wea a b c =>
      have g := good_leaf_w a b c
      simp only [Pl.d] at g ⊢
      cases c <;> simp [-ev_fDic, sz_e, tab_tuple, tyKD, look2, oIn_pairL, g, oD] at g ⊢ <;> simp [g]
    | wit m p =>
      have r := ih p (List.mem_singleton.mpr rfl)
      simp [Pl.d, Pl.form, -ev_fDic, sz_e, tab_tuple, tyKD, look2, oIn_pairL, whole_i, r]
      cases inB 0 m 1000 <;> simp [r]
    | many w ps =>
      have s3 : ps.length ≤ 100 := hs.1
      have s6 : ps.length ≤ 16777216 := by omega
      have ih' : ∀ q ∈ ps, F__law_good_form_n n [q.d] = .ret (.bl q.form) [] := ih
      have c : ∀ x md, md = .own ∨ md = .bor none → compD (gChk md (gNm 2)) fYes (fCall (F__law_good_form_n n) [false] ar__law_good_form_1_ [.val (.bor 2)] (aCons (fVar 2) aNil)) [.bor none x, .own szD, .dead] (ps.map Pl.d) = some (ps.map fun q => .bl q.form) := fun x md hm =>
        compD_map fun q hq => by
          have r := ih' q hq
          rcases hm with rfl | rfl <;> exact ⟨[.bor none x, .own szD, .own q.d], [.bor none x, .own szD, .own q.d], [.bor none x, .own szD, .own q.d], by simp, by simp, by simp [r]⟩
      by_cases h1 : (1 : Int) ≤ ps.length
      · by_cases h4 : (ps.length : Int) ≤ 4
        · simp [Pl.d, Pl.form, formL_eq, -ev_fDic, sz_e, tab_tuple, tab_list, tyKD, look2, oIn_pairL, w.ne, plsD_eq, h1, h4, inB, c, s6, all_form]
        · simp [Pl.d, Pl.form, formL_eq, -ev_fDic, sz_e, tab_tuple, tab_list, tyKD, look2, oIn_pairL, w.ne, plsD_eq, h1, h4, inB, c, s6, all_form]
      · simp [Pl.d, Pl.form, formL_eq, -ev_fDic, sz_e, tab_tuple, tab_list, tyKD, look2, oIn_pairL, w.ne, plsD_eq, h1, inB, c, s6, all_form]
theorem leaf_o (a b : Int) : F_is_leaf [(Pl.ours a b).d] = .ret (.bl (inB 0 a 1000 && inB a b 1000)) [] := by
  unfold F_is_leaf runF B_is_leaf
  simp [Pl.d, within_i2, gStarD]
  cases inB 0 a 1000 <;> simp [within_i2]
theorem leaf_w (a b : Int) (c : Option Int) : F_is_leaf [(Pl.wea a b c).d] = .ret (.bl (lateB c && (inB 1 a 1000 && inB a b 1000))) [] := by
  unfold F_is_leaf runF B_is_leaf
  cases c with
  | none =>
    simp [Pl.d, within_i2, gStarD, oD, lateB]
    cases inB 1 a 1000 <;> simp [within_i2]
  | some x =>
    simp [Pl.d, within_i2, gStarD, oD, lateB]
    cases inB 0 x 1000 <;> cases inB 1 a 1000 <;> simp [within_i2]
end My
namespace My
open PySem PySem.Spec L2 DL PL
theorem form_o (a b : Int) : (inB 0 a 1000 && inB a b 1000) = (Pl.ours a b).form := by
  rw [Bool.eq_iff_iff]
  simp only [Pl.form, inB, Bool.and_eq_true, decide_eq_true_eq]
  omega
theorem form_w (a b : Int) (c : Option Int) : (lateB c && (inB 1 a 1000 && inB a b 1000)) = (Pl.wea a b c).form := by
  rw [Bool.eq_iff_iff]
  simp only [Pl.form, inB, Bool.and_eq_true, decide_eq_true_eq]
  constructor
  · rintro ⟨h1, ⟨h2, h3⟩, h4, h5⟩
    exact ⟨⟨⟨⟨h2, h3⟩, by omega, h5⟩, h4⟩, h1⟩
  · rintro ⟨⟨⟨⟨h2, h3⟩, h5, h6⟩, h4⟩, h1⟩
    exact ⟨h1, ⟨h2, h3⟩, h4, h6⟩
@[simp] theorem blsK (ks : List Pl) (k : Nat) : blsD (ks.map fun q => D.bl (q.form && decide (q.dep ≤ k))) = some (ks.map fun q => q.form && decide (q.dep ≤ k)) := blsD_map
theorem allK (ks : List Pl) (k : Nat) : (ks.map fun q => q.form && decide (q.dep ≤ k)).all id = (ks.all Pl.form && decide (depL ks ≤ k)) := by
  rw [List.all_map, Bool.eq_iff_iff]
  simp only [List.all_eq_true, Function.comp, id, Bool.and_eq_true, decide_eq_true_eq, depL_le]
  constructor
  · intro h
    exact ⟨fun q hq => (h q hq).1, fun q hq => (h q hq).2⟩
  · intro h q hq
    exact ⟨h.1 q hq, h.2 q hq⟩
theorem is_formed_ok : ∀ (n k : Nat) (p : Pl), k + 1 ≤ n → p.sm → F_is_formed_n n [p.d, .int (k : Int)] = .ret (.bl (p.form && decide (p.dep ≤ k))) []
  | 0, k, p, h, _ => absurd h (by omega)
  | n + 1, 0, p, h, _ => by
    have e : decide (p.dep ≤ 0) = false := decide_eq_false (by have := dep_pos p; omega)
    rw [e, Bool.and_false]
    unfold F_is_formed_n runF B_is_formed
    simp
  | n + 1, k + 1, p, h, hs => by
    obtain ⟨s1, s2⟩ := sm_kids hs
    have ih : ∀ q ∈ p.kids, F_is_formed_n n [q.d, .int (k : Int)] = .ret (.bl (q.form && decide (q.dep ≤ k))) [] := fun q hq => is_formed_ok n k q (by omega) (s2 q hq)
    have kz : ¬ ((k : Int) + 1 = 0) := by omega
    have ke : (k : Int) + 1 - 1 = k := by omega
    unfold F_is_formed_n runF B_is_formed
    rw [show ((k + 1 : Nat) : Int) = (k : Int) + 1 from by omega]
    cases p with
    | ours a b =>
      have g := leaf_o a b
      rw [form_o] at g
      have e : decide ((Pl.ours a b).dep ≤ k + 1) = true := decide_eq_true (by simp [Pl.dep])
      rw [e]
      simp only [Pl.d] at g ⊢
      simp [kz, ke, tab_tuple, tab_str, tyKD, look2, oIn_pair, g]
    | wea a b c =>
      have g := leaf_w a b c
      rw [form_w] at g
      have e : decide ((Pl.wea a b c).dep ≤ k + 1) = true := decide_eq_true (by simp [Pl.dep])
      rw [e]
      simp only [Pl.d] at g ⊢
      generalize (Pl.wea a b c).form = fo at *
      cases c <;> simp [kz, ke, tab_tuple, tab_str, tyKD, look2, oIn_pair, oD] at g ⊢ <;> simp [g]
    | wit m p =>
      have r := ih p (List.mem_singleton.mpr rfl)
      have e : decide ((Pl.wit m p).dep ≤ k + 1) = decide (p.dep ≤ k) := by
        rw [decide_eq_decide]
        simp only [Pl.dep]
        omega
      rw [e]
      simp [Pl.d, Pl.form, kz, ke, tab_tuple, tab_str, tyKD, look2, oIn_pair, within_i2, r]
      cases inB 0 m 1000 <;> simp [r, ke]
    | many w ps =>
      have s3 : ps.length ≤ 100 := hs.1
      have s6 : ps.length ≤ 16777216 := by omega
      have ih' : ∀ q ∈ ps, F_is_formed_n n [q.d, .int (k : Int)] = .ret (.bl (q.form && decide (q.dep ≤ k))) [] := ih
      have e : decide ((Pl.many w ps).dep ≤ k + 1) = decide (depL ps ≤ k) := by
        rw [decide_eq_decide]
        simp only [Pl.dep]
        omega
      rw [e]
      have c : ∀ x z md, md = .own ∨ md = .bor none → compD (gChk md (gNm 3)) fYes (fCall (F_is_formed_n n) [false, false] ar_is_formed_2_ [.val (.bor 3), .val .own] (aCons (fVar 3) (aCons (fOp oSub (aCons (fVar 1) (aCons (fC (.int 1)) aNil))) aNil))) [.bor none x, .bor none (.int ((k : Int) + 1)), z, .dead] (ps.map Pl.d) = some (ps.map fun q => .bl (q.form && decide (q.dep ≤ k))) := fun x z md hm =>
        compD_map fun q hq => by
          have r := ih' q hq
          rcases hm with rfl | rfl
          · refine ⟨[.bor none x, .bor none (.int ((k : Int) + 1)), killS 3 z, .own q.d], [.bor none x, .bor none (.int ((k : Int) + 1)), killS 3 z, .own q.d], [.bor none x, .bor none (.int ((k : Int) + 1)), killS 3 z, .own q.d], ?_, by simp, by simp [r, ke]⟩
            simp
          · refine ⟨[.bor none x, .bor none (.int ((k : Int) + 1)), killS 3 z, .own q.d], [.bor none x, .bor none (.int ((k : Int) + 1)), killS 3 z, .own q.d], [.bor none x, .bor none (.int ((k : Int) + 1)), killS 3 z, .own q.d], ?_, by simp, by simp [r, ke]⟩
            simp
      by_cases h1 : (1 : Int) ≤ ps.length
      · by_cases h4 : (ps.length : Int) ≤ 4
        · simp [Pl.d, Pl.form, formL_eq, kz, ke, tab_tuple, tab_str, tab_list, tyKD, look2, oIn_pair, w.ne, plsD_eq, h1, h4, inB, c, s6]
          rw [← allK, List.all_map]
          rfl
        · simp [Pl.d, Pl.form, formL_eq, kz, ke, tab_tuple, tab_str, tab_list, tyKD, look2, oIn_pair, w.ne, plsD_eq, h1, h4, inB, c, s6]
      · simp [Pl.d, Pl.form, formL_eq, kz, ke, tab_tuple, tab_str, tab_list, tyKD, look2, oIn_pair, w.ne, plsD_eq, h1, inB, c, s6]
def Pl.good (p : Pl) : Bool := (p.form && decide (p.dep ≤ 6)) && (decide (p.lc ≤ 12) && decide (p.rc ≤ 64))
theorem good_plan_ok {p : Pl} (hd : p.dep ≤ 8) (hs : p.sm) : F__law_good_plan [p.d] = .ret (.bl p.good) [] := by
  have a1 : F__law_good_form [p.d] = .ret (.bl p.form) [] := good_form_ok 8 p hd hs
  have a2 : F__law_plan_depth [p.d] = .ret (.int p.dep) [] := plan_depth_ok 8 p hd hs
  have a3 : F__law_leaf_count [p.d] = .ret (.int p.lc) [] := leaf_count_ok 8 p hd hs
  unfold F__law_good_plan runF B__law_good_plan Pl.good
  cases hf : p.form with
  | false => simp [a1, hf]
  | true =>
    by_cases h6 : p.dep ≤ 6
    · have e6 : ¬ ((6 : Int) < (p.dep : Int)) := by omega
      by_cases h12 : p.lc ≤ 12
      · have a4 : F__law_reading_count [p.d] = .ret (.int p.rc) [] := reading_count_ok 8 p hd hs (by omega)
        simp [a1, a2, a3, a4, hf, h6, e6, h12]
      · simp [a1, a2, a3, hf, h6, e6, h12]
    · have e6 : (6 : Int) < (p.dep : Int) := by omega
      simp [a1, a2, hf, h6, e6]
theorem need_plan_ok {p : Pl} (hd : p.dep ≤ 8) (hs : p.sm) (h : p.good = true) : F_need_plan [p.d] = .ret .non [] := by
  simp only [Pl.good, Bool.and_eq_true, decide_eq_true_eq] at h
  obtain ⟨⟨h1, h2⟩, h3, h4⟩ := h
  have a1 : F_is_formed [p.d, .int 6] = .ret (.bl true) [] := by
    have q := is_formed_ok 8 6 p (by decide) hs
    rw [h1, decide_eq_true h2] at q
    exact q
  have a2 : F_leaves [p.d] = .ret (.int p.lc) [] := leaves_ok 8 p hd hs
  have a3 : F_choices [p.d] = .ret (.int p.rc) [] := choices_ok 8 p hd hs (by omega)
  have e1 : ¬ (12 < p.lc) := by omega
  have e2 : ¬ (64 < p.rc) := by omega
  unfold F_need_plan runF B_need_plan
  simp [a1, a2, a3, e1, e2]
end My
namespace My
open PySem PySem.Spec L2 DL PL TL
theorem leaf_draw {f : D} {far : Int} (h : FlOk f) (h0 : 0 < far) (h1 : far ≤ 1000) : ∃ (p : Pl) (f' : D), F__law_leaf [f, .int far] = .ret p.d [f'] ∧ FlOk f' ∧ p.dep = 1 ∧ p.sm := by
  obtain ⟨r0, f0, e0, g0, a0, b0⟩ := draw_ok (n := 2) h (by decide) (by decide)
  obtain ⟨r1, f1, e1, g1, a1, b1⟩ := draw_ok (n := far) g0 h0 (by omega)
  obtain ⟨r2, f2, e2, g2, a2, b2⟩ := draw_ok (n := far) g1 h0 (by omega)
  unfold F__law_leaf runF B__law_leaf
  by_cases hz : r0 = 0
  · refine ⟨.ours r1 (r1 + r2), f2, ?_, g2, rfl, trivial⟩
    simp [e0, e1, e2, hz, Pl.d]
  · obtain ⟨r3, f3, e3, g3, a3, b3⟩ := draw_ok (n := 4) g2 (by decide) (by decide)
    have c : r3 = 0 ∨ r3 = 1 ∨ r3 = 2 ∨ r3 = 3 := by omega
    obtain ⟨r4, f4, e4, g4, a4, b4⟩ := draw_ok (n := far) g3 h0 (by omega)
    rcases c with rfl | rfl | rfl | rfl
    · refine ⟨.wea (1 + r1) (1 + r1 + r4) (some 0), f4, ?_, g4, rfl, trivial⟩
      simp [e0, e1, e2, e3, e4, hz, Pl.d, oD]
    · refine ⟨.wea (1 + r1) (1 + r1 + r4) (some 0), f4, ?_, g4, rfl, trivial⟩
      simp [e0, e1, e2, e3, e4, hz, Pl.d, oD]
    · refine ⟨.wea (1 + r1) (1 + r1 + r4) none, f4, ?_, g4, rfl, trivial⟩
      simp [e0, e1, e2, e3, e4, hz, Pl.d, oD]
    · refine ⟨.wea (1 + r1) (1 + r1 + r4) (some (1 + r2)), f4, ?_, g4, rfl, trivial⟩
      simp [e0, e1, e2, e3, e4, hz, Pl.d, oD]
def wordsL : D := .node false .lst [.str "then", .str "either", .str "beside", .str "either", .str "within"]
def PlD (F : List D → Fo) (b far : Int) : Prop := ∀ f, FlOk f → ∃ (d : D) (p : Pl) (f' : D), F [f, .int b, wordsL, .int far] = .ret d [f'] ∧ FlOk f' ∧ d.fz = p.d ∧ ((p.dep : Int) ≤ max 1 b ∧ p.sm)
theorem fzL_mapd {ds : List D} {ps : List Pl} (h : ds.map D.fz = ps.map Pl.d) : fzL ds = ps.map Pl.d := by rw [fzL_map, h]
theorem comp_draw {F : List D → Fo} {b far kd : Int} {w : Str} {m : Int} (hF : PlD F (b - 1) far) : ∀ (xs : List Int) (f : D), FlOk f →
    ∃ (ds : List D) (ps : List Pl) (f' : D), compM [7] (gChk .own (gNm 7)) fYes (fCall F [true, false, false, false] ar__law_plan_4_ [.slot 0, .val .own, .val (.bor 2), .val (.bor 3)] (aCons (fSlot 0) (aCons (fOp oSub (aCons (fVar 1) (aCons (fC (.int 1)) aNil))) (aCons (fVar 2) (aCons (fVar 3) aNil))))) (xs.map D.int)
      [.own f, .bor none (.int b), .bor none wordsL, .bor none (.int far), .own (.int kd), .own (.str w), .own (.int m), .dead] = some (ds, [.own f', .bor none (.int b), .bor none wordsL, .bor none (.int far), .own (.int kd), .own (.str w), .own (.int m), .dead])
      ∧ FlOk f' ∧ ds.map D.fz = ps.map Pl.d ∧ ps.length = xs.length ∧ ∀ p ∈ ps, (p.dep : Int) ≤ max 1 (b - 1) ∧ p.sm
  | [], f, h => ⟨[], [], f, rfl, h, rfl, rfl, fun p hp => nomatch hp⟩
  | x :: xs, f, h => by
    obtain ⟨d, p, f1, e1, g1, z1, k1⟩ := hF f h
    obtain ⟨ds, ps, f2, e2, g2, z2, l2, k2⟩ := comp_draw (kd := kd) (w := w) (m := m) hF xs f1 g1
    refine ⟨d :: ds, p :: ps, f2, ?_, g2, by rw [List.map_cons, z1, z2, List.map_cons], by rw [List.length_cons, List.length_cons, l2], fun q hq => ?_⟩
    · rw [List.map_cons]
      unfold compM
      have hw : wordsL.frz = true := rfl
      generalize wordsL = wl at *
      simp [e1]
      rw [e2]
    · rcases List.mem_cons.mp hq with rfl | hq
      · exact k1
      · exact k2 q hq
theorem sm_many {w : Wk} {ps : List Pl} (hl : ps.length ≤ 3) (h : ∀ p ∈ ps, p.sm) : (Pl.many w ps).sm := ⟨by omega, smL_iff.mpr h⟩
theorem plan_draw {far : Int} (h0 : 0 < far) (h1 : far ≤ 1000) : ∀ (n : Nat) (b : Int), 1 ≤ n → b ≤ n → PlD (F__law_plan_n n) b far
  | 0, b, h, _ => absurd h (by decide)
  | n + 1, b, _, hb => by
    intro f hf
    have hL : oLen [wordsL] = some (.int 5) := rfl
    obtain ⟨r0, f0, e0, g0, a0, b0⟩ := draw_ok (n := 7) hf (by decide) (by decide)
    unfold F__law_plan_n runF B__law_plan
    by_cases hz : b < 2 ∨ r0 < 2
    · obtain ⟨p, f1, e1, g1, d1, s1⟩ := leaf_draw g0 h0 h1
      refine ⟨p.d, p, f1, ?_, g1, p.fz, by rw [d1]; omega, s1⟩
      by_cases hb2 : b < 2
      · simp [hL, e0, e1, hb2]
      · have hr2 : r0 < 2 := by omega
        simp [hL, e0, e1, hb2, hr2]
    · have hb2 : ¬ b < 2 := by omega
      have hr2 : ¬ r0 < 2 := by omega
      have ih : PlD (F__law_plan_n n) (b - 1) far := plan_draw h0 h1 n (b - 1) (by omega) (by omega)
      have c : r0 = 2 ∨ r0 = 3 ∨ r0 = 4 ∨ r0 = 5 ∨ r0 = 6 := by omega
      by_cases hw : r0 = 6
      · subst hw
        obtain ⟨r1, f1, e1, g1, a1, b1⟩ := draw_ok (n := 5 * far) g0 (by omega) (by omega)
        obtain ⟨d2, p2, f2, e2, g2, z2, k2, s2⟩ := ih f1 g1
        have i2 : oItm [wordsL, .int 4] = some (.str "within") := rfl
        refine ⟨.node (!frzL [.str "within", .int r1, d2]) .tup [.str "within", .int r1, d2], .wit r1 p2, f2, ?_, g2, ?_, ?_, s2⟩
        · generalize wordsL = wl at *
          simp [hL, e0, e1, e2, hb2, i2]
        · simp [D.fz, fzL, z2, Pl.d]
        · simp only [Pl.dep]
          omega
      · obtain ⟨r1, f1, e1, g1, a1, b1⟩ := draw_ok (n := 3) g0 (by decide) (by decide)
        obtain ⟨w, iw⟩ : ∃ w : Wk, oItm [wordsL, .int (r0 - 2)] = some (.str w.nm) := by
          rcases c with rfl | rfl | rfl | rfl | rfl
          · exact ⟨.th, rfl⟩
          · exact ⟨.ei, rfl⟩
          · exact ⟨.be, rfl⟩
          · exact ⟨.ei, rfl⟩
          · exact absurd rfl hw
        obtain ⟨ds, ps, f2, e2, g2, z2, l2, k2⟩ := comp_draw (kd := r0) (w := w.nm) (m := 1 + r1) ih ((List.range (1 + r1).toNat).map fun (i : Nat) => (0 : Int) + (i : Int)) f1 g1
        rw [List.map_map] at e2
        rw [List.length_map, List.length_range] at l2
        have rg : (List.range (1 + r1).toNat).map (D.int ∘ fun i : Nat => 0 + (i : Int)) = rangeD 0 (1 + r1).toNat := rfl
        rw [rg] at e2
        have dl : ds.length ≤ 16777216 := by
          have := congrArg List.length z2
          rw [List.length_map, List.length_map] at this
          omega
        refine ⟨.node (!frzL [.str w.nm, .node true .lst ds]) .tup [.str w.nm, .node true .lst ds], .many w ps, f2, ?_, g2, ?_, ?_, sm_many (by omega) fun p hp => (k2 p hp).2⟩
        · generalize wordsL = wl at *
          have hr0 : ¬ r0 < 2 := hr2
          have rg1 : rng1D [.int (1 + r1)] = some (rangeD 0 (1 + r1).toNat) := ev_rng1 (by omega) (by omega)
          have fl : flat .own = true := rfl
          simp [hL, e0, e1, e2, hb2, hr0, iw, w.ne, dl, rg1, fl]
        · simp [D.fz, fzL, fzL_mapd z2, Pl.d, plsD_eq]
        · have : depL ps ≤ (max 1 (b - 1)).toNat := depL_le.mpr fun p hp => by have := (k2 p hp).1; omega
          simp only [Pl.dep]
          omega
end My
namespace My
open PySem PySem.Spec L2 DL PL TL
def widen (rows : List (List Pl)) (qs : List Pl) : List (List Pl) := rows.flatMap fun row => qs.map fun one => row ++ [one]
mutual
def Pl.ways : Pl → List Pl
  | .ours a b => [.ours a b]
  | .wea a b c => [.wea a b c]
  | .wit m p => p.ways.map (.wit m)
  | .many w ps => if w = .ei then waysS ps else (waysP [[]] ps).map (.many w)
def waysS : List Pl → List Pl
  | [] => []
  | p :: ps => p.ways ++ waysS ps
def waysP : List (List Pl) → List Pl → List (List Pl)
  | rows, [] => rows
  | rows, p :: ps => waysP (widen rows p.ways) ps
end
theorem widen_len (rows : List (List Pl)) (qs : List Pl) : (widen rows qs).length = rows.length * qs.length := by
  unfold widen
  induction rows with
  | nil => simp
  | cons r rows ih =>
    rw [List.flatMap_cons, List.length_append, List.length_map, ih, List.length_cons, Nat.add_mul]
    omega
mutual
theorem ways_len : ∀ p : Pl, (p.ways.length : Int) = p.rc
  | .ours a b => by simp [Pl.ways, Pl.rc]
  | .wea a b c => by simp [Pl.ways, Pl.rc]
  | .wit m p => by
    have := ways_len p
    simp only [Pl.ways, Pl.rc, List.length_map]
    exact this
  | .many w ps => by
    have h1 := waysS_len ps
    have h2 := waysP_len ps [[]]
    simp only [Pl.ways, Pl.rc]
    split
    · exact h1
    · rw [List.length_map, h2]
      simp
theorem waysS_len : ∀ ps : List Pl, ((waysS ps).length : Int) = rcS ps
  | [] => rfl
  | p :: ps => by
    have h1 := ways_len p
    have h2 := waysS_len ps
    rw [waysS, rcS, List.length_append]
    omega
theorem waysP_len : ∀ (ps : List Pl) (rows : List (List Pl)), ((waysP rows ps).length : Int) = rows.length * rcP ps
  | [], rows => by simp [waysP, rcP]
  | p :: ps, rows => by
    have h1 := ways_len p
    have h2 := waysP_len ps (widen rows p.ways)
    rw [waysP, rcP, h2, widen_len, ← h1]
    push_cast
    rw [Int.mul_assoc]
end
def Fit (n : Nat) (q : Pl) : Prop := q.dep ≤ n ∧ q.sm
theorem mem_widen {rows : List (List Pl)} {qs row : List Pl} (h : row ∈ widen rows qs) : ∃ r ∈ rows, ∃ q ∈ qs, row = r ++ [q] := by
  unfold widen at h
  obtain ⟨r, hr, h⟩ := List.mem_flatMap.mp h
  obtain ⟨q, hq, rfl⟩ := List.mem_map.mp h
  exact ⟨r, hr, q, hq, rfl⟩
mutual
theorem ways_fit : ∀ (p : Pl) (n : Nat), p.dep ≤ n → p.sm → ∀ q ∈ p.ways, Fit n q
  | .ours a b, n, hd, hs, q, hq => by
    simp only [Pl.ways, List.mem_singleton] at hq
    subst hq
    exact ⟨hd, hs⟩
  | .wea a b c, n, hd, hs, q, hq => by
    simp only [Pl.ways, List.mem_singleton] at hq
    subst hq
    exact ⟨hd, hs⟩
  | .wit m p, n, hd, hs, q, hq => by
    simp only [Pl.ways, List.mem_map] at hq
    obtain ⟨r, hr, rfl⟩ := hq
    simp only [Pl.dep] at hd
    have := ways_fit p (n - 1) (by omega) hs r hr
    exact ⟨by simp only [Pl.dep]; have := this.1; omega, this.2⟩
  | .many w ps, n, hd, hs, q, hq => by
    simp only [Pl.dep] at hd
    have hs' : ps.length ≤ 100 ∧ smL ps := hs
    simp only [Pl.ways] at hq
    split at hq
    · obtain ⟨h1, h2⟩ := waysS_fit ps (n - 1) (by omega) hs'.2 q hq
      exact ⟨by omega, h2⟩
    · obtain ⟨row, hr, rfl⟩ := List.mem_map.mp hq
      obtain ⟨h1, h2⟩ := waysP_fit ps (n - 1) [[]] 0 (by omega) hs'.2 (fun r hr => by
        rw [List.mem_singleton] at hr
        subst hr
        exact ⟨rfl, fun q hq => nomatch hq⟩) row hr
      have h3 : depL row ≤ n - 1 := depL_le.mpr fun q hq => (h2 q hq).1
      exact ⟨by simp only [Pl.dep]; omega, ⟨by omega, smL_iff.mpr fun q hq => (h2 q hq).2⟩⟩
theorem waysS_fit : ∀ (ps : List Pl) (n : Nat), depL ps ≤ n → smL ps → ∀ q ∈ waysS ps, Fit n q
  | [], n, _, _, q, hq => nomatch hq
  | p :: ps, n, hd, hs, q, hq => by
    rw [waysS] at hq
    have hd' := depL_le.mp hd
    have hs' := smL_iff.mp hs
    rcases List.mem_append.mp hq with hq | hq
    · exact ways_fit p n (hd' p (List.mem_cons_self ..)) (hs' p (List.mem_cons_self ..)) q hq
    · exact waysS_fit ps n (depL_le.mpr fun r hr => hd' r (List.mem_cons_of_mem _ hr)) (smL_iff.mpr fun r hr => hs' r (List.mem_cons_of_mem _ hr)) q hq
theorem waysP_fit : ∀ (ps : List Pl) (n : Nat) (rows : List (List Pl)) (k : Nat), depL ps ≤ n → smL ps → (∀ r ∈ rows, r.length = k ∧ ∀ q ∈ r, Fit n q) → ∀ r ∈ waysP rows ps, r.length = k + ps.length ∧ ∀ q ∈ r, Fit n q
  | [], n, rows, k, _, _, h, r, hr => by
    rw [waysP] at hr
    exact h r hr
  | p :: ps, n, rows, k, hd, hs, h, r, hr => by
    rw [waysP] at hr
    have hd' := depL_le.mp hd
    have hs' := smL_iff.mp hs
    obtain ⟨h1, h2⟩ := waysP_fit ps n (widen rows p.ways) (k + 1) (depL_le.mpr fun r hr => hd' r (List.mem_cons_of_mem _ hr)) (smL_iff.mpr fun r hr => hs' r (List.mem_cons_of_mem _ hr)) (fun row hrow => by
      obtain ⟨r0, hr0, q, hq, rfl⟩ := mem_widen hrow
      obtain ⟨g1, g2⟩ := h r0 hr0
      refine ⟨by rw [List.length_append, g1]; rfl, fun x hx => ?_⟩
      rcases List.mem_append.mp hx with hx | hx
      · exact g2 x hx
      · rw [List.mem_singleton] at hx
        subst hx
        exact ways_fit p n (hd' p (List.mem_cons_self ..)) (hs' p (List.mem_cons_self ..)) x hq) r hr
    exact ⟨by rw [h1, List.length_cons]; omega, h2⟩
end
theorem ways_few {p : Pl} (h : p.lc ≤ 12) : p.ways.length ≤ 4096 := by
  have h1 := ways_len p
  have h2 := (rc_le p).2
  have h3 : (2 : Int) ^ p.lc.toNat ≤ 2 ^ 12 := pow_mono (by omega)
  have h4 : (2 : Int) ^ 12 = 4096 := by decide
  omega
theorem waysS_few {ps : List Pl} (h : lcL ps ≤ 12) : (waysS ps).length ≤ 4096 := by
  have h1 := waysS_len ps
  have h2 := (rcL_le ps).2.1
  have h3 : (2 : Int) ^ (lcL ps).toNat ≤ 2 ^ 12 := pow_mono (by omega)
  have h4 : (2 : Int) ^ 12 = 4096 := by decide
  omega
end My
namespace My
open PySem PySem.Spec L2 DL PL TL
theorem frzL_pls (ps : List Pl) : frzL (ps.map Pl.d) = true := by rw [← plsD_eq]; exact plsD_frz ps
theorem fzL_pls (ps : List Pl) : fzL (ps.map Pl.d) = ps.map Pl.d := fzL_of_frz _ (frzL_pls ps)
def rowZ (r : List Pl) : D := .node false .lst (r.map Pl.d)
@[simp] theorem rowZ_frz (r : List Pl) : (rowZ r).frz = true := by unfold rowZ; simp [D.frz, frzL_pls]
@[simp] theorem rowZ_fz (r : List Pl) : (rowZ r).fz = rowZ r := fz_of_frz _ (rowZ_frz r)
theorem frzL_rows (rs : List (List Pl)) : frzL (rs.map rowZ) = true := by rw [frzL_all, List.all_map]; exact List.all_eq_true.mpr fun r _ => rowZ_frz r
theorem fzL_rows (rs : List (List Pl)) : fzL (rs.map rowZ) = rs.map rowZ := fzL_of_frz _ (frzL_rows rs)
def WaysL (F : List D → Fo) (q : Pl) : Prop := F [q.d] = .ret (.node true .lst (q.ways.map Pl.d)) []
def bodE (F : List D → Fo) : FS := fAsg .own (fOp oAdd (aCons (fVar 1) (aCons (fCall F [false] ar__law_ways_1_ [.val (.bor 2)] (aCons (fVar 2) aNil)) aNil))) (gNm 1)
theorem step_either {F : List D → Fo} {p q : D} {A B : List D} {s2 : Sl} (e : F [q] = .ret (.node true .lst B) []) (hA : frzL A = true) (hB : frzL B = true) (hl : A.length + B.length ≤ 16777216) (hq : q.frz = true) (h2 : SlF s2) :
    gChk .own (gNm 2) q [.bor none p, .own (L A), s2, .dead, .dead, .dead, .dead] = some [.bor none p, .own (L A), .own q, .dead, .dead, .dead, .dead] ∧
    bodE F [.bor none p, .own (L A), .own q, .dead, .dead, .dead, .dead] = .nxt [.bor none p, .own (L (A ++ B)), .own q, .dead, .dead, .dead, .dead] := by
  have k2 : ∀ j, killS j s2 = s2 := fun j => killS_f h2
  refine ⟨?_, ?_⟩
  · simp [hq]
  · unfold bodE
    simp [e, hA, hB, hl]
theorem either_loop {F : List D → Fo} {p : D} : ∀ (qs : List Pl) (acc : List Pl) (s2 : Sl), (∀ q ∈ qs, WaysL F q) → acc.length + (waysS qs).length ≤ 100000 → SlF s2 →
    ∃ s2', SlF s2' ∧ loopD (gChk .own (gNm 2)) (bodE F) (qs.map Pl.d) [.bor none p, .own (L (acc.map Pl.d)), s2, .dead, .dead, .dead, .dead] = .nxt [.bor none p, .own (L ((acc ++ waysS qs).map Pl.d)), s2', .dead, .dead, .dead, .dead]
  | [], acc, s2, _, _, h2 => ⟨s2, h2, by rw [List.map_nil]; unfold loopD waysS; rw [List.append_nil]⟩
  | q :: qs, acc, s2, h, hl, h2 => by
    rw [waysS, List.length_append] at hl
    obtain ⟨s2', k2, ih⟩ := either_loop (p := p) qs (acc ++ q.ways) (.own q.d) (fun r hr => h r (List.mem_cons_of_mem _ hr)) (by rw [List.length_append]; omega) slF_own
    obtain ⟨st1, st2⟩ := step_either (p := p) (h q (List.mem_cons_self ..)) (frzL_pls acc) (frzL_pls q.ways) (by rw [List.length_map, List.length_map]; omega) q.frz h2
    refine ⟨s2', k2, ?_⟩
    rw [List.map_cons]
    unfold loopD waysS
    rw [st1]
    simp only [st2]
    rw [← List.map_append, ← List.append_assoc]
    exact ih
def fRow : FE := (fFrE (fOp oAdd (aCons (fVar 6) (aCons (fOp oLst (aCons (fChk (fVar 2)) aNil)) aNil))))
theorem row_comp {p : D} {row : List Pl} {r3 kid w : Sl} (hk3 : killS 2 r3 = r3) : ∀ (qs : List Pl), row.length ≤ 1000 → SlF kid → SlF w →
    compM [2] (gChk .own (gNm 2)) fYes fRow (qs.map Pl.d) [.bor none p, .dead, .dead, r3, kid, w, .own (rowZ row)] = some (qs.map fun one => rowZ (row ++ [one]), [.bor none p, .dead, .dead, r3, kid, w, .own (rowZ row)])
  | [], _, _, _ => rfl
  | q :: qs, hr, hk, hw => by
    have ih := row_comp (p := p) (kid := kid) (w := w) hk3 qs hr hk hw
    have kk : ∀ j, killS j kid = kid := fun j => killS_f hk
    have kw : ∀ j, killS j w = w := fun j => killS_f hw
    have f1 := frzL_pls row
    have qf := q.frz
    have l1 : row.length + 1 ≤ 16777216 := by omega
    have fz : (D.node true .lst (row.map Pl.d ++ [q.d])).fz = rowZ (row ++ [q]) := by
      show D.node false .lst (fzL (row.map Pl.d ++ [q.d])) = _
      rw [show row.map Pl.d ++ [q.d] = (row ++ [q]).map Pl.d by simp, fzL_pls]
      rfl
    have e1 : gChk .own (gNm 2) q.d [.bor none p, .dead, .dead, r3, kid, w, .own (rowZ row)] = some [.bor none p, .dead, .own q.d, r3, kid, w, .own (rowZ row)] := by
      simp [kk, kw, hk3]
    have e2 : fRow [.bor none p, .dead, .own q.d, r3, kid, w, .own (rowZ row)] = .ok (rowZ (row ++ [q])) [.bor none p, .dead, .own q.d, r3, kid, w, .own (rowZ row)] := by
      unfold fRow
      have rz : rowZ row = .node false .lst (row.map Pl.d) := rfl
      rw [rz]
      generalize hX : row.map Pl.d = X at *
      have lX : X.length = row.length := by rw [← hX, List.length_map]
      simp [f1, qf, lX, l1, fz]
    have e3 : deadM [2] [.bor none p, .dead, .own q.d, r3, kid, w, .own (rowZ row)] = [.bor none p, .dead, .dead, r3, kid, w, .own (rowZ row)] := by
      simp [kk, kw, hk3]
    rw [List.map_cons]
    unfold compM
    rw [e1]
    dsimp only
    have ey : fYes [.bor none p, .dead, .own q.d, r3, kid, w, .own (rowZ row)] = .ok true [.bor none p, .dead, .own q.d, r3, kid, w, .own (rowZ row)] := rfl
    rw [ey]
    dsimp only
    rw [e2]
    dsimp only
    rw [e3, ih]
    rfl
def bodR (F : List D → Fo) : FS := (fAsg .frz (fFrE (fOp oAdd (aCons (fChk (fVar 5)) (aCons (fLcM 7 [2] (iAnyD .own (fCall F [false] ar__law_ways_1_ [.val (.bor 4)] (aCons (fVar 4) aNil))) (gNm 2) fYes fRow) aNil)))) (gNm 5))
def bodK (F : List D → Fo) : FS := (fSeq (fAsg .frz (fFrE (fOp oLst aNil)) (gNm 5)) (fSeq (fForI (iAnyD (.bor 3) (fVar 3)) (gNm 6) (bodR F)) (fAsg .frz (fFrE (fFz 5)) (gNm 3))))
def rwsZ (rs : List (List Pl)) : D := .node false .lst (rs.map rowZ)
theorem step_row {F : List D → Fo} {p : D} {q : Pl} {row : List Pl} {acc : List (List Pl)} {s6 : Sl} {R : D} (e : WaysL F q) (hr : row.length ≤ 1000) (hl : acc.length + q.ways.length ≤ 16777216) (h6 : SlF s6) :
    gChk .own (gNm 6) (rowZ row) [.bor none p, .dead, .dead, .own R, .own q.d, .own (rwsZ acc), s6] = some [.bor none p, .dead, .dead, .own R, .own q.d, .own (rwsZ acc), .own (rowZ row)] ∧
    bodR F [.bor none p, .dead, .dead, .own R, .own q.d, .own (rwsZ acc), .own (rowZ row)] = .nxt [.bor none p, .dead, .dead, .own R, .own q.d, .own (rwsZ (acc ++ q.ways.map fun one => row ++ [one])), .own (rowZ row)] := by
  have c := row_comp (p := p) (row := row) (r3 := .own R) (kid := .own q.d) (w := .own (rwsZ acc)) rfl q.ways hr slF_own slF_own
  refine ⟨?_, ?_⟩
  · simp [killS_f h6]
  · have e' : F [q.d] = .ret (.node true .lst (q.ways.map Pl.d)) [] := e
    have fA : (rwsZ acc).frz = true := by unfold rwsZ; simp [D.frz, frzL_rows]
    have lw : q.ways.length ≤ 16777216 := by omega
    have fr1 := frzL_rows acc
    have fr2 := frzL_rows (q.ways.map fun one => row ++ [one])
    rw [List.map_map] at fr2
    have fr2' : frzL (q.ways.map fun one => rowZ (row ++ [one])) = true := fr2
    have fz : (D.node true .lst (acc.map rowZ ++ q.ways.map fun one => rowZ (row ++ [one]))).fz = rwsZ (acc ++ q.ways.map fun one => row ++ [one]) := by
      unfold rwsZ
      show D.node false .lst (fzL _) = _
      rw [List.map_append, List.map_map]
      congr 1
      exact fzL_of_frz _ (by rw [frzL_append, fr1, fr2']; rfl)
    have rz : rwsZ acc = .node false .lst (acc.map rowZ) := rfl
    have ln : (q.ways.map fun one => rowZ (row ++ [one])).length = q.ways.length := List.length_map ..
    have fl0 : flat .own = true := rfl
    have fY := fzL_pls q.ways
    unfold bodR
    rw [rz] at c ⊢
    generalize hX : (q.ways.map fun one => rowZ (row ++ [one])) = X at *
    generalize hY : q.ways.map Pl.d = Y at *
    generalize hA : acc.map rowZ = A at *
    have lA : A.length = acc.length := by rw [← hA, List.length_map]
    generalize q.d = qd at *
    generalize rowZ row = rr at *
    simp [e', c, fl0, fY, ln, lw, fr1, fr2', fz, lA, hl, D.frz]
theorem row_loop {F : List D → Fo} {p : D} {q : Pl} {R : D} (e : WaysL F q) : ∀ (rows acc : List (List Pl)) (s6 : Sl), (∀ r ∈ rows, r.length ≤ 1000) → acc.length + (widen rows q.ways).length ≤ 100000 → SlF s6 →
    ∃ s6', SlF s6' ∧ loopD (gChk .own (gNm 6)) (bodR F) (rows.map rowZ) [.bor none p, .dead, .dead, .own R, .own q.d, .own (rwsZ acc), s6] = .nxt [.bor none p, .dead, .dead, .own R, .own q.d, .own (rwsZ (acc ++ widen rows q.ways)), s6']
  | [], acc, s6, _, _, h6 => ⟨s6, h6, by rw [List.map_nil]; unfold loopD widen; rw [List.flatMap_nil, List.append_nil]⟩
  | row :: rows, acc, s6, hr, hl, h6 => by
    have hw : widen (row :: rows) q.ways = (q.ways.map fun one => row ++ [one]) ++ widen rows q.ways := rfl
    rw [hw, List.length_append, List.length_map] at hl
    obtain ⟨st1, st2⟩ := step_row (p := p) (R := R) (acc := acc) e (hr row (List.mem_cons_self ..)) (by omega) h6
    obtain ⟨s6', g, ih⟩ := row_loop (p := p) (R := R) e rows (acc ++ q.ways.map fun one => row ++ [one]) (.own (rowZ row)) (fun r h => hr r (List.mem_cons_of_mem _ h)) (by rw [List.length_append, List.length_map]; omega) slF_own
    refine ⟨s6', g, ?_⟩
    rw [List.map_cons, hw, ← List.append_assoc]
    unfold loopD
    rw [st1]
    simp only [st2]
    exact ih
theorem kid_step {F : List D → Fo} {p : D} {q : Pl} {rows : List (List Pl)} {s5 s6 : Sl} (e : WaysL F q) (hr : ∀ r ∈ rows, r.length ≤ 1000) (hl : (widen rows q.ways).length ≤ 100000) (hn : rows.length ≤ 100000) (h5 : SlF s5) (h6 : SlF s6) :
    ∃ s6', SlF s6' ∧ bodK F [.bor none p, .dead, .dead, .own (rwsZ rows), .own q.d, s5, s6] = .nxt [.bor none p, .dead, .dead, .own (rwsZ (widen rows q.ways)), .own q.d, .own (rwsZ (widen rows q.ways)), s6'] := by
  obtain ⟨s6', g, lp⟩ := row_loop (p := p) (R := rwsZ rows) (acc := []) e rows s6 hr (by simpa using hl) h6
  refine ⟨s6', g, ?_⟩
  have f0 : (rwsZ []).frz = true := rfl
  have fr := frzL_rows rows
  have fw := frzL_rows (widen rows q.ways)
  have k5 : ∀ j, killS j s5 = s5 := fun j => killS_f h5
  have k6 : ∀ j, killS j s6 = s6 := fun j => killS_f h6
  have g6 : ∀ j, killS j s6' = s6' := fun j => killS_f g
  have e0 : (D.node true .lst []).fz = rwsZ [] := rfl
  have rzf : (rwsZ (widen rows q.ways)).frz = true := by unfold rwsZ; simp [D.frz, fw]
  have rzz := fz_of_frz _ rzf
  rw [List.nil_append] at lp
  unfold bodK
  generalize bodR F = bR at *
  generalize rwsZ (widen rows q.ways) = W at *
  generalize rwsZ [] = E0 at *
  generalize q.d = qd at *
  have rz : rwsZ rows = .node false .lst (rows.map rowZ) := rfl
  rw [rz] at lp ⊢
  generalize rows.map rowZ = RS at *
  simp [e0, lp, fr, k5, k6, g6, rzf, rzz]
end My
namespace My
open PySem PySem.Spec L2 DL PL TL
theorem compM_map {α : Type} {vs : List Nat} {g : D → Evn → Option Evn} {ft : FT} {fe : FE} {env : Evn} {enc h : α → D} : ∀ {xs : List α}, (∀ a ∈ xs, ∃ e1 e2 e3, g (enc a) env = some e1 ∧ ft e1 = .ok true e2 ∧ fe e2 = .ok (h a) e3 ∧ deadM vs e3 = env) →
    compM vs g ft fe (xs.map enc) env = some (xs.map h, env)
  | [], _ => rfl
  | a :: xs, H => by
    obtain ⟨e1, e2, e3, q1, q2, q3, q4⟩ := H a (List.mem_cons_self ..)
    have ih := compM_map (xs := xs) fun b hb => H b (List.mem_cons_of_mem _ hb)
    rw [List.map_cons]
    unfold compM
    rw [q1]
    dsimp only
    rw [q2]
    dsimp only
    rw [q3]
    dsimp only
    rw [q4, ih]
    rfl
theorem ways_pow (p : Pl) : p.ways.length ≤ 2 ^ p.lc.toNat := by
  have h1 := ways_len p
  have h2 := (rc_le p).2
  have h3 : ((2 ^ p.lc.toNat : Nat) : Int) = (2 : Int) ^ p.lc.toNat := by push_cast; rfl
  omega
theorem lcL_pow (p : Pl) (ps : List Pl) : 2 ^ (lcL (p :: ps)).toNat = 2 ^ p.lc.toNat * 2 ^ (lcL ps).toNat := by
  have h1 := lc_pos p
  have h2 := lcL_pos ps
  rw [lcL, show (p.lc + lcL ps).toNat = p.lc.toNat + (lcL ps).toNat by omega, Nat.pow_add]
theorem kid_loop {F : List D → Fo} {p : D} : ∀ (qs : List Pl) (rows : List (List Pl)) (s4 s5 s6 : Sl), (∀ q ∈ qs, WaysL F q) → (∀ r ∈ rows, r.length + qs.length ≤ 1000) → rows.length * 2 ^ (lcL qs).toNat ≤ 100000 → SlF s4 → SlF s5 → SlF s6 →
    ∃ s4' s5' s6', (SlF s4' ∧ SlF s5' ∧ SlF s6') ∧ loopD (gChk .own (gNm 4)) (bodK F) (qs.map Pl.d) [.bor none p, .dead, .dead, .own (rwsZ rows), s4, s5, s6] = .nxt [.bor none p, .dead, .dead, .own (rwsZ (waysP rows qs)), s4', s5', s6']
  | [], rows, s4, s5, s6, _, _, _, h4, h5, h6 => ⟨s4, s5, s6, ⟨h4, h5, h6⟩, by rw [List.map_nil]; unfold loopD waysP; rfl⟩
  | q :: qs, rows, s4, s5, s6, h, hr, hl, h4, h5, h6 => by
    rw [lcL_pow, ← Nat.mul_assoc] at hl
    have wl := widen_len rows q.ways
    have wp := ways_pow q
    have m1 : rows.length * q.ways.length ≤ rows.length * 2 ^ q.lc.toNat := Nat.mul_le_mul_left _ wp
    have p1 : 1 ≤ 2 ^ (lcL qs).toNat := Nat.one_le_two_pow
    have p2 : 1 ≤ 2 ^ q.lc.toNat := Nat.one_le_two_pow
    have m2 : (widen rows q.ways).length * 2 ^ (lcL qs).toNat ≤ rows.length * 2 ^ q.lc.toNat * 2 ^ (lcL qs).toNat := by
      rw [wl]
      exact Nat.mul_le_mul_right _ m1
    have m3 : rows.length * 2 ^ q.lc.toNat ≤ rows.length * 2 ^ q.lc.toNat * 2 ^ (lcL qs).toNat := Nat.le_mul_of_pos_right _ p1
    have m4 : rows.length ≤ rows.length * 2 ^ q.lc.toNat := Nat.le_mul_of_pos_right _ p2
    have e := h q (List.mem_cons_self ..)
    obtain ⟨t6, g6, st⟩ := kid_step (p := p) (rows := rows) e (fun r hrr => by have := hr r hrr; omega) (by omega) (by omega) h5 h6
    obtain ⟨s4', s5', s6', g, ih⟩ := kid_loop (p := p) qs (widen rows q.ways) (.own q.d) (.own (rwsZ (widen rows q.ways))) t6 (fun r hrr => h r (List.mem_cons_of_mem _ hrr)) (fun r hrr => by
      obtain ⟨r0, hr0, q0, _, rfl⟩ := mem_widen hrr
      have := hr r0 hr0
      simp only [List.length_cons, List.length_append, List.length_nil] at this ⊢
      omega) (by omega) slF_own slF_own g6
    refine ⟨s4', s5', s6', g, ?_⟩
    have st1 : gChk .own (gNm 4) q.d [.bor none p, .dead, .dead, .own (rwsZ rows), s4, s5, s6] = some [.bor none p, .dead, .dead, .own (rwsZ rows), .own q.d, s5, s6] := by
      simp [q.frz, killS_f h5, killS_f h6]
    rw [List.map_cons]
    unfold loopD waysP
    rw [st1]
    simp only [st]
    exact ih
def fTupW : FE := (fFrE (fOp oTup (aCons (fChk (fOp oItm (aCons (fVar 0) (aCons (fC (.int 0)) aNil)))) (aCons (fChk (fVar 6)) aNil))))
def fTupI : FE := (fFrE (fOp oAdd (aCons (fSl (fVar 0) (fun env => .ok none env) (fPart (fC (.int 2)))) (aCons (fOp oTup (aCons (fChk (fVar 2)) aNil)) aNil))))
theorem B_ways_eq (F : List D → Fo) : B__law_ways F = (fSeq (fIfS (fB (fOp oEqF (aCons (fOp oItm (aCons (fVar 0) (aCons (fC (.int 0)) aNil))) (aCons (fC (.str "either")) aNil)))) (fSeq (fAsg .own (fOp oLst aNil) (gNm 1)) (fSeq (fForI (iAnyD (.bor 0) (fOp oItm (aCons (fVar 0) (aCons (fC (.int 1)) aNil)))) (gNm 2) (bodE F)) (fRet (fMv 1)))) fNext)
  (fSeq (fIfS (fB (fOp oEqF (aCons (fOp oItm (aCons (fVar 0) (aCons (fC (.int 0)) aNil))) (aCons (fC (.str "within")) aNil)))) (fRet (fLcM 7 [2] (iAnyD .own (fCall F [false] ar__law_ways_1_ [.val (.bor 0)] (aCons (fOp oItm (aCons (fVar 0) (aCons (fC (.int 2)) aNil))) aNil))) (gNm 2) fYes fTupI)) fNext)
  (fSeq (fIfS (fB (fOp oInAny (aCons (fOp oItm (aCons (fVar 0) (aCons (fC (.int 0)) aNil))) (aCons (fOp oLst (aCons (fC (.str "ours")) (aCons (fC (.str "weather")) aNil))) aNil)))) (fRet (fOp oLst (aCons (fChk (fVar 0)) aNil))) fNext)
  (fSeq (fAsg .frz (fFrE (fOp oLst (aCons (fOp oLst aNil) aNil))) (gNm 3))
  (fSeq (fForI (iAnyD (.bor 0) (fOp oItm (aCons (fVar 0) (aCons (fC (.int 1)) aNil)))) (gNm 4) (bodK F))
  (fRet (fLcM 7 [6] (iAnyD .frz (fFz 3)) (gNm 6) fYes fTupW))))))) := rfl
theorem lc_many_le' (w : Wk) (ps : List Pl) : lcL ps ≤ (Pl.many w ps).lc := by
  cases ps with
  | nil => simp [Pl.lc, lcL]
  | cons p ps => simp [Pl.lc, lcL]
theorem pow_le12 {ps : List Pl} (h : lcL ps ≤ 12) : 2 ^ (lcL ps).toNat ≤ 4096 := by
  have : 2 ^ (lcL ps).toNat ≤ 2 ^ 12 := Nat.pow_le_pow_right (by decide) (by omega)
  omega
theorem law_ways_ok : ∀ (n : Nat) (p : Pl), p.dep ≤ n → p.sm → p.lc ≤ 12 → WaysL (F__law_ways_n n) p
  | 0, p, h, _, _ => absurd (dep_pos p) (by omega)
  | n + 1, p, h, hs, hlc => by
    obtain ⟨s1, s2⟩ := sm_kids hs
    have ih : ∀ q ∈ p.kids, WaysL (F__law_ways_n n) q := fun q hq => law_ways_ok n q (dep_kids h q hq) (s2 q hq) (Int.le_trans (lc_kids hq) hlc)
    unfold WaysL F__law_ways_n runF
    rw [B_ways_eq]
    cases p with
    | ours a b => simp [Pl.d, Pl.ways, oIn_pairL]
    | wea a b c => simp [Pl.d, Pl.ways, oIn_pairL]
    | wit m q =>
      have e : F__law_ways_n n [q.d] = .ret (.node true .lst (q.ways.map Pl.d)) [] := ih q (by simp [Pl.kids])
      have qf := q.frz
      have hq : q.lc ≤ 12 := hlc
      have few := ways_few hq
      have c : compM [2] (gChk .own (gNm 2)) fYes fTupI (q.ways.map Pl.d) [.bor none (Pl.wit m q).d, .dead, .dead, .dead, .dead, .dead, .dead] = some (q.ways.map fun r => (Pl.wit m r).d, [.bor none (Pl.wit m q).d, .dead, .dead, .dead, .dead, .dead, .dead]) :=
        compM_map fun r _ => by
          have rf := r.frz
          refine ⟨[.bor none (Pl.wit m q).d, .dead, .own r.d, .dead, .dead, .dead, .dead], [.bor none (Pl.wit m q).d, .dead, .own r.d, .dead, .dead, .dead, .dead], [.bor none (Pl.wit m q).d, .dead, .own r.d, .dead, .dead, .dead, .dead], by simp, by simp [fYes], ?_, by simp⟩
          have sl : oSl (Pl.wit m q).d none (some 2) = some (.node false .tup [.str "within", .int m]) := by
            show (if frzL [.str "within", .int m, q.d] = true then some (D.node false .tup (cutD [.str "within", .int m, q.d] none (some 2))) else none) = _
            rw [if_pos (by simp [frzL, D.frz, qf])]
            rfl
          have rd : (Pl.wit m r).d = .node false .tup [.str "within", .int m, r.d] := rfl
          rw [rd]
          have rfz := r.fz
          have ad : oAdd [.node false .tup [.str "within", .int m], .node false .tup [r.d]] = some (.node false .tup [.str "within", .int m, r.d]) := by
            show (if frzL [D.str "within", .int m] = true ∧ frzL [r.d] = true ∧ [D.str "within", .int m] ≠ [] ∧ [r.d] ≠ [] ∧ [D.str "within", .int m].length + [r.d].length ≤ sizeLine then some (D.node false .tup ([D.str "within", .int m] ++ [r.d])) else none) = _
            rw [if_pos ⟨rfl, by simp [frzL, rf], by simp, by simp, by rw [sizeLine_eq]; simp⟩]
            rfl
          unfold fTupI
          generalize (Pl.wit m q).d = P at *
          generalize r.d = R at *
          simp [sl, rf, rfz, D.fz, fzL, ad]
      have fY := fzL_pls q.ways
      have fl0 : flat .own = true := rfl
      have ln : (q.ways.map fun r => (Pl.wit m r).d).length ≤ 16777216 := by rw [List.length_map]; omega
      have ew : (Pl.wit m q).ways.map Pl.d = q.ways.map fun r => (Pl.wit m r).d := by simp only [Pl.ways, List.map_map]; rfl
      rw [ew]
      have i0 : oItm [(Pl.wit m q).d, .int 0] = some (.str "within") := rfl
      have i2 : oItm [(Pl.wit m q).d, .int 2] = some q.d := rfl
      generalize (Pl.wit m q).d = P at *
      generalize (q.ways.map fun r => (Pl.wit m r).d) = X at *
      generalize q.ways.map Pl.d = Y at *
      simp [i0, i2, e, c, fY, fl0, ln]
    | many w ps =>
      have e : ∀ q ∈ ps, WaysL (F__law_ways_n n) q := ih
      have fpl := frzL_pls ps
      have pd : (Pl.many w ps).d = .node false .tup [.str w.nm, .node false .lst (ps.map Pl.d)] := by simp [Pl.d, plsD_eq]
      have i0 : oItm [(Pl.many w ps).d, .int 0] = some (.str w.nm) := by rw [pd]; rfl
      have i1 : oItm [(Pl.many w ps).d, .int 1] = some (.node false .lst (ps.map Pl.d)) := by rw [pd]; rfl
      have hps : lcL ps ≤ 12 := Int.le_trans (lc_many_le' w ps) hlc
      by_cases hw : w = .ei
      · subst hw
        have few := waysS_few hps
        obtain ⟨s2', g2, lp⟩ := either_loop (p := (Pl.many .ei ps).d) ps [] .dead e (by simp; omega) slF_dead
        have ew : (Pl.many .ei ps).ways = waysS ps := by simp only [Pl.ways, if_true]
        rw [ew]
        have n0 : (Wk.ei.nm = "either") = True := eq_true rfl
        rw [List.map_nil, List.nil_append] at lp
        generalize (Pl.many .ei ps).d = P at *
        generalize (waysS ps).map Pl.d = X at *
        generalize ps.map Pl.d = Y at *
        generalize bodE (F__law_ways_n n) = bE at *
        simp [i0, i1, n0, lp, fpl]
      · have n0 : (w.nm = "either") = False := eq_false fun z => hw ((Wk.ei_iff w).mp z)
        obtain ⟨n1, n2, n3⟩ := w.ne
        obtain ⟨s4', s5', s6', ⟨g4, g5, g6⟩, lp⟩ := kid_loop (p := (Pl.many w ps).d) ps [[]] .dead .dead .dead e (fun r hr => by
          rw [List.mem_singleton] at hr
          subst hr
          have : ps.length ≤ 100 := s1
          simp; omega) (by
          have := pow_le12 hps
          simp
          omega) slF_dead slF_dead slF_dead
        have few : (waysP [[]] ps).length ≤ 4096 := by
          have h1 := waysP_len ps [[]]
          have h2 := (rcL_le ps).2.2.2
          have h3 : (2 : Int) ^ (lcL ps).toNat ≤ 2 ^ 12 := pow_mono (by omega)
          have h4 : (2 : Int) ^ 12 = 4096 := by decide
          simp at h1
          omega
        have ew : (Pl.many w ps).ways.map Pl.d = (waysP [[]] ps).map fun r => (Pl.many w r).d := by
          simp only [Pl.ways, if_neg hw, List.map_map]
          rfl
        rw [ew]
        have fr := frzL_rows (waysP [[]] ps)
        have rz : rwsZ (waysP [[]] ps) = .node false .lst ((waysP [[]] ps).map rowZ) := rfl
        have rf : (rwsZ (waysP [[]] ps)).frz = true := by rw [rz]; simp [D.frz, fr]
        have rzz := fz_of_frz _ rf
        have k4 : ∀ j, killS j s4' = s4' := fun j => killS_f g4
        have k5 : ∀ j, killS j s5' = s5' := fun j => killS_f g5
        have k6 : ∀ j, killS j s6' = s6' := fun j => killS_f g6
        have c : compM [6] (gChk .own (gNm 6)) fYes fTupW ((waysP [[]] ps).map rowZ) [.bor none (Pl.many w ps).d, .dead, .dead, .own (rwsZ (waysP [[]] ps)), s4', s5', .dead] = some ((waysP [[]] ps).map fun r => (Pl.many w r).d, [.bor none (Pl.many w ps).d, .dead, .dead, .own (rwsZ (waysP [[]] ps)), s4', s5', .dead]) :=
          compM_map fun r _ => by
            have rd : (Pl.many w r).d = .node false .tup [.str w.nm, rowZ r] := by simp [Pl.d, plsD_eq, rowZ]
            have rfz := rowZ_frz r
            have rz2 := rowZ_fz r
            rw [rd]
            generalize (Pl.many w ps).d = P at *
            generalize rwsZ (waysP [[]] ps) = W at *
            generalize rowZ r = R at *
            refine ⟨[.bor none P, .dead, .dead, .own W, s4', s5', .own R], [.bor none P, .dead, .dead, .own W, s4', s5', .own R], [.bor none P, .dead, .dead, .own W, s4', s5', .own R], by simp [k4, k5], by simp [fYes], ?_, by simp [k4, k5]⟩
            unfold fTupW
            simp [i0, rfz, rz2, D.fz, fzL]
        have e00 : (D.node true .lst [.node true .lst []]).fz = rwsZ [[]] := rfl
        have ln : ((waysP [[]] ps).map fun r => (Pl.many w r).d).length ≤ 16777216 := by rw [List.length_map]; omega
        have fl0 : flat .own = true := rfl
        have fY := fzL_rows (waysP [[]] ps)
        have f00 : (rwsZ [[]]).frz = true := rfl
        rw [rz] at c lp rf rzz
        generalize (Pl.many w ps).d = P at *
        generalize (waysP [[]] ps).map (fun r => (Pl.many w r).d) = X at *
        generalize (waysP [[]] ps).map rowZ = RS at *
        have e01 : rwsZ [[]] = .node false .lst [.node false .lst []] := rfl
        rw [e01] at lp
        generalize ps.map Pl.d = Y at *
        generalize bodK (F__law_ways_n n) = bK at *
        simp [i0, i1, n0, n1, n2, n3, oIn_pairL, e00, lp, fpl, c, ln, fl0, rf, rzz, fr, fY, k4, k5, k6, D.frz, D.fz]
end My
namespace My
open PySem PySem.Spec L2 DL PL TL
section
variable {s0 : Sl} {env : Evn}
@[simp] theorem ev_fLc2 {n : Nat} {vs : List Nat} {fI : Evn → Rs (Md × List D × Bool)} {gD : Md → D → Evn → Option Evn} {ft : FT} {k1 : Kd} {fi1 : FE} {vs1 : List Nat} {g1 : Md → D → Evn → Option Evn} {ft1 : FT} {fe : FE} :
    fLc2 n vs fI gD ft k1 fi1 vs1 g1 ft1 fe (s0 :: env) = (fI (s0 :: env)).bind fun y e1 =>
  if e1.length = n ∧ (vs.all fun j => decide (j < n)) = true ∧ rootB y.1 (deadM vs (lockR y.1 e1)) = true then (match compD2 (gChk y.1 gD) ft k1 fi1 vs1 g1 ft1 fe (deadM vs (lockR y.1 e1)) y.2.1 with
    | some ds => if ds.length ≤ sizeLine then .ok (.node true .lst ds) e1 else .stuck
    | none => .stuck) else .stuck := (rfl)
end
theorem compD2_flat {α β : Type} {g : D → Evn → Option Evn} {ft : FT} {fi1 : FE} {vs1 : List Nat} {g1 : Md → D → Evn → Option Evn} {ft1 : FT} {fe : FE} {env : Evn} {enc : α → D} {inn : α → List β} {encB : β → D} {h : α → β → D} : ∀ {xs : List α},
    (∀ a ∈ xs, ∃ e1, g (enc a) env = some e1 ∧ ft e1 = .ok true e1 ∧ fi1 e1 = .ok (.node true .lst ((inn a).map encB)) e1 ∧ fzL ((inn a).map encB) = (inn a).map encB ∧ (vs1.all fun j => decide (j < e1.length)) = true ∧ compD (gChk .own g1) ft1 fe (deadM vs1 e1) ((inn a).map encB) = some ((inn a).map (h a))) →
    compD2 g ft .own fi1 vs1 g1 ft1 fe env (xs.map enc) = some (xs.flatMap fun a => (inn a).map (h a))
  | [], _ => rfl
  | a :: xs, H => by
    obtain ⟨e1, q1, q2, q3, q4, q5, q6⟩ := H a (List.mem_cons_self ..)
    have ih := compD2_flat (xs := xs) fun b hb => H b (List.mem_cons_of_mem _ hb)
    rw [List.map_cons]
    unfold compD2
    rw [q1]
    dsimp only
    rw [q2]
    dsimp only
    rw [q3]
    dsimp only
    have w : walkD .own (.node true .lst ((inn a).map encB)) e1 = some (.own, .node false .lst (fzL ((inn a).map encB))) := rfl
    rw [w, q4]
    dsimp only
    rw [if_pos ⟨rfl, q5⟩]
    have sq : seqD (.node false .lst ((inn a).map encB)) = some ((inn a).map encB) := rfl
    rw [sq]
    dsimp only
    rw [q6]
    dsimp only
    rw [ih]
    rfl
def WaysP (F : List D → Fo) (q : Pl) : Prop := F [q.d] = .ret (.node true .lst (q.ways.map Pl.d)) []
def rowO (r : List Pl) : D := .node true .lst (r.map Pl.d)
def fEltE : FE := (fChk (fVar 4))
def fEltP : FE := (fOp oAdd (aCons (fVar 5) (aCons (fOp oLst (aCons (fChk (fVar 4)) aNil)) aNil)))
def fCP (F : List D → Fo) : FE := (fCall F [false] ar_ways_1_ [.val (.bor 3)] (aCons (fVar 3) aNil))
def bodP (F : List D → Fo) : FS := (fAsg .own (fLc2 6 [5, 4] (iAnyD (.bor 2) (fVar 2)) (gNm 5) fYes .own (fCP F) [4] (gNm 4) fYes fEltP) (gNm 2))
def fTupP : FE := (fFrE (fOp oTup (aCons (fChk (fVar 1)) (aCons (fOp oList (aCons (fVar 5) aNil)) aNil))))
def fTupQ : FE := (fFrE (fOp oTup (aCons (fC (.str "within")) (aCons (fChk (fOp oItm (aCons (fVar 0) (aCons (fC (.int 1)) aNil)))) (aCons (fChk (fVar 4)) aNil)))))
theorem B_waysP_eq (F : List D → Fo) : B_ways F = (fSeq (fAsg (.bor 0) (fOp oItm (aCons (fVar 0) (aCons (fC (.int 0)) aNil))) (gNm 1))
  (fSeq (fIfS (fB (fOp oEqF (aCons (fVar 1) (aCons (fC (.str "either")) aNil)))) (fRet (fLc2 6 [3, 4] (iAnyD (.bor 0) (fOp oItm (aCons (fVar 0) (aCons (fC (.int 1)) aNil)))) (gNm 3) fYes .own (fCP F) [4] (gNm 4) fYes fEltE)) fNext)
  (fSeq (fIfS (fB (fOp oEqF (aCons (fVar 1) (aCons (fC (.str "within")) aNil)))) (fRet (fLcM 6 [4] (iAnyD .own (fCall F [false] ar_ways_1_ [.val (.bor 0)] (aCons (fOp oItm (aCons (fVar 0) (aCons (fC (.int 2)) aNil))) aNil))) (gNm 4) fYes fTupQ)) fNext)
  (fSeq (fIfS (fB (fOp oInAny (aCons (fVar 1) (aCons (fOp oTup (aCons (fC (.str "ours")) (aCons (fC (.str "weather")) aNil))) aNil)))) (fRet (fOp oLst (aCons (fChk (fVar 0)) aNil))) fNext)
  (fSeq (fAsg .own (fOp oLst (aCons (fOp oLst aNil) aNil)) (gNm 2))
  (fSeq (fForI (iAnyD (.bor 0) (fOp oItm (aCons (fVar 0) (aCons (fC (.int 1)) aNil)))) (gNm 3) (bodP F))
  (fRet (fLcM 6 [5] (iAnyD .frz (fFz 2)) (gNm 5) fYes fTupP)))))))) := rfl
theorem rowP_comp {p R : D} {w : Str} {q : Pl} {row : List Pl} (hr : row.length ≤ 1000) : ∀ qs : List Pl,
    compD (gChk .own (gNm 4)) fYes fEltP [.bor none p, .own (.str w), .bor (some 2) R, .own q.d, .dead, .bor (some 2) (rowO row)] (qs.map Pl.d) = some (qs.map fun one => rowO (row ++ [one])) := fun qs =>
  compD_map fun one _ => by
    have f1 := frzL_pls row
    have qf := one.frz
    have l1 : row.length + 1 ≤ 16777216 := by omega
    refine ⟨[.bor none p, .own (.str w), .bor (some 2) R, .own q.d, .own one.d, .bor (some 2) (rowO row)], [.bor none p, .own (.str w), .bor (some 2) R, .own q.d, .own one.d, .bor (some 2) (rowO row)], [.bor none p, .own (.str w), .bor (some 2) R, .own q.d, .own one.d, .bor (some 2) (rowO row)], by simp, by simp [fYes], ?_⟩
    unfold fEltP rowO
    rw [List.map_append]
    simp [f1, qf, l1]
theorem kidP_step {F : List D → Fo} {p : D} {w : Str} {q : Pl} {rows : List (List Pl)} (e : WaysP F q) (hr : ∀ r ∈ rows, r.length ≤ 1000) (hl : (widen rows q.ways).length ≤ 100000) (hn : rows.length ≤ 100000) :
    bodP F [.bor none p, .own (.str w), .own (L (rows.map rowO)), .own q.d, .dead, .dead] = .nxt [.bor none p, .own (.str w), .own (L ((widen rows q.ways).map rowO)), .own q.d, .dead, .dead] := by
  have e' : F [q.d] = .ret (.node true .lst (q.ways.map Pl.d)) [] := e
  have c := compD2_flat (g := gChk (.bor (some 2)) (gNm 5)) (ft := fYes) (fi1 := fCP F) (vs1 := [4]) (g1 := gNm 4) (ft1 := fYes) (fe := fEltP) (env := [.bor none p, .own (.str w), .bor (some 2) (L (rows.map rowO)), .own q.d, .dead, .dead]) (enc := rowO) (inn := fun _ => q.ways) (encB := Pl.d) (h := fun row one => rowO (row ++ [one])) (xs := rows) (fun row hrow => by
    refine ⟨[.bor none p, .own (.str w), .bor (some 2) (L (rows.map rowO)), .own q.d, .dead, .bor (some 2) (rowO row)], ?_, rfl, ?_, fzL_pls _, rfl, ?_⟩
    · simp [rowO, D.frz]
    · unfold fCP
      simp [e']
    · exact rowP_comp (hr row hrow) q.ways)
  have ew : (rows.flatMap fun row => q.ways.map fun one => rowO (row ++ [one])) = (widen rows q.ways).map rowO := by
    unfold widen
    rw [List.map_flatMap]
    congr 1
    funext row
    rw [List.map_map]
    rfl
  have c' : compD2 (gChk (.bor (some 2)) (gNm 5)) fYes .own (fCP F) [4] (gNm 4) fYes fEltP [.bor none p, .own (.str w), .bor (some 2) (L (rows.map rowO)), .own q.d, .dead, .dead] (rows.map rowO) = some ((widen rows q.ways).map rowO) := by rw [c, ew]
  have ln : ((widen rows q.ways).map rowO).length ≤ 16777216 := by rw [List.length_map]; omega
  unfold bodP
  generalize (widen rows q.ways).map rowO = X at *
  generalize rows.map rowO = Y at *
  generalize q.d = qd at *
  generalize fCP F = fc at *
  simp [c', ln]
end My
namespace My
open PySem PySem.Spec L2 DL PL TL
theorem kidP_loop {F : List D → Fo} {p : D} {w : Str} : ∀ (qs : List Pl) (rows : List (List Pl)) (s3 : Sl), (∀ q ∈ qs, WaysP F q) → (∀ r ∈ rows, r.length + qs.length ≤ 1000) → rows.length * 2 ^ (lcL qs).toNat ≤ 100000 → SlF s3 →
    ∃ s3', SlF s3' ∧ loopD (gChk .own (gNm 3)) (bodP F) (qs.map Pl.d) [.bor none p, .own (.str w), .own (L (rows.map rowO)), s3, .dead, .dead] = .nxt [.bor none p, .own (.str w), .own (L ((waysP rows qs).map rowO)), s3', .dead, .dead]
  | [], rows, s3, _, _, _, h3 => ⟨s3, h3, by rw [List.map_nil]; unfold loopD waysP; rfl⟩
  | q :: qs, rows, s3, h, hr, hl, h3 => by
    rw [lcL_pow, ← Nat.mul_assoc] at hl
    have wl := widen_len rows q.ways
    have wp := ways_pow q
    have m1 : rows.length * q.ways.length ≤ rows.length * 2 ^ q.lc.toNat := Nat.mul_le_mul_left _ wp
    have p1 : 1 ≤ 2 ^ (lcL qs).toNat := Nat.one_le_two_pow
    have p2 : 1 ≤ 2 ^ q.lc.toNat := Nat.one_le_two_pow
    have m2 : (widen rows q.ways).length * 2 ^ (lcL qs).toNat ≤ rows.length * 2 ^ q.lc.toNat * 2 ^ (lcL qs).toNat := by
      rw [wl]
      exact Nat.mul_le_mul_right _ m1
    have m3 : rows.length * 2 ^ q.lc.toNat ≤ rows.length * 2 ^ q.lc.toNat * 2 ^ (lcL qs).toNat := Nat.le_mul_of_pos_right _ p1
    have m4 : rows.length ≤ rows.length * 2 ^ q.lc.toNat := Nat.le_mul_of_pos_right _ p2
    have e := h q (List.mem_cons_self ..)
    have st := kidP_step (p := p) (w := w) (rows := rows) e (fun r hrr => by have := hr r hrr; omega) (by omega) (by omega)
    obtain ⟨s3', g, ih⟩ := kidP_loop (p := p) (w := w) qs (widen rows q.ways) (.own q.d) (fun r hrr => h r (List.mem_cons_of_mem _ hrr)) (fun r hrr => by
      obtain ⟨r0, hr0, q0, _, rfl⟩ := mem_widen hrr
      have := hr r0 hr0
      simp only [List.length_cons, List.length_append, List.length_nil] at this ⊢
      omega) (by omega) slF_own
    refine ⟨s3', g, ?_⟩
    have st1 : gChk .own (gNm 3) q.d [.bor none p, .own (.str w), .own (L (rows.map rowO)), s3, .dead, .dead] = some [.bor none p, .own (.str w), .own (L (rows.map rowO)), .own q.d, .dead, .dead] := by
      simp
    rw [List.map_cons]
    unfold loopD waysP
    rw [st1]
    simp only [st]
    exact ih
theorem ways_ok : ∀ (n : Nat) (p : Pl), p.dep ≤ n → p.sm → p.lc ≤ 12 → WaysP (F_ways_n n) p
  | 0, p, h, _, _ => absurd (dep_pos p) (by omega)
  | n + 1, p, h, hs, hlc => by
    obtain ⟨s1, s2⟩ := sm_kids hs
    have ih : ∀ q ∈ p.kids, WaysP (F_ways_n n) q := fun q hq => ways_ok n q (dep_kids h q hq) (s2 q hq) (Int.le_trans (lc_kids hq) hlc)
    unfold WaysP F_ways_n runF
    rw [B_waysP_eq]
    cases p with
    | ours a b => simp [Pl.d, Pl.ways, oIn_pair]
    | wea a b c => simp [Pl.d, Pl.ways, oIn_pair]
    | wit m q =>
      have e : F_ways_n n [q.d] = .ret (.node true .lst (q.ways.map Pl.d)) [] := ih q (by simp [Pl.kids])
      have qf := q.frz
      have hq : q.lc ≤ 12 := hlc
      have few := ways_few hq
      have i0 : oItm [(Pl.wit m q).d, .int 0] = some (.str "within") := rfl
      have i1 : oItm [(Pl.wit m q).d, .int 1] = some (.int m) := rfl
      have i2 : oItm [(Pl.wit m q).d, .int 2] = some q.d := rfl
      have c : compM [4] (gChk .own (gNm 4)) fYes fTupQ (q.ways.map Pl.d) [.bor none (Pl.wit m q).d, .own (.str "within"), .dead, .dead, .dead, .dead] = some (q.ways.map fun r => (Pl.wit m r).d, [.bor none (Pl.wit m q).d, .own (.str "within"), .dead, .dead, .dead, .dead]) :=
        compM_map fun r _ => by
          have rf := r.frz
          refine ⟨[.bor none (Pl.wit m q).d, .own (.str "within"), .dead, .dead, .own r.d, .dead], [.bor none (Pl.wit m q).d, .own (.str "within"), .dead, .dead, .own r.d, .dead], [.bor none (Pl.wit m q).d, .own (.str "within"), .dead, .dead, .own r.d, .dead], by simp, by simp [fYes], ?_, by simp⟩
          have rd : (Pl.wit m r).d = .node false .tup [.str "within", .int m, r.d] := rfl
          rw [rd]
          have rfz := r.fz
          unfold fTupQ
          generalize (Pl.wit m q).d = P at *
          generalize r.d = R at *
          simp [i1, rf, rfz, D.fz, fzL]
      have fY := fzL_pls q.ways
      have fl0 : flat .own = true := rfl
      have ln : (q.ways.map fun r => (Pl.wit m r).d).length ≤ 16777216 := by rw [List.length_map]; omega
      have ew : (Pl.wit m q).ways.map Pl.d = q.ways.map fun r => (Pl.wit m r).d := by simp only [Pl.ways, List.map_map]; rfl
      rw [ew]
      generalize (Pl.wit m q).d = P at *
      generalize (q.ways.map fun r => (Pl.wit m r).d) = X at *
      generalize q.ways.map Pl.d = Y at *
      simp [i0, i2, e, c, fY, fl0, ln]
    | many w ps =>
      have e : ∀ q ∈ ps, WaysP (F_ways_n n) q := ih
      have fpl := frzL_pls ps
      have pd : (Pl.many w ps).d = .node false .tup [.str w.nm, .node false .lst (ps.map Pl.d)] := by simp [Pl.d, plsD_eq]
      have i0 : oItm [(Pl.many w ps).d, .int 0] = some (.str w.nm) := by rw [pd]; rfl
      have i1 : oItm [(Pl.many w ps).d, .int 1] = some (.node false .lst (ps.map Pl.d)) := by rw [pd]; rfl
      have hps : lcL ps ≤ 12 := Int.le_trans (lc_many_le' w ps) hlc
      by_cases hw : w = .ei
      · subst hw
        have few := waysS_few hps
        have c := compD2_flat (g := gChk .own (gNm 3)) (ft := fYes) (fi1 := fCP (F_ways_n n)) (vs1 := [4]) (g1 := gNm 4) (ft1 := fYes) (fe := fEltE) (env := [.bor none (Pl.many .ei ps).d, .own (.str Wk.ei.nm), .dead, .dead, .dead, .dead]) (enc := Pl.d) (inn := fun q => q.ways) (encB := Pl.d) (h := fun _ one => one.d) (xs := ps) (fun q hq => by
          have e' : F_ways_n n [q.d] = .ret (.node true .lst (q.ways.map Pl.d)) [] := e q hq
          refine ⟨[.bor none (Pl.many .ei ps).d, .own (.str Wk.ei.nm), .dead, .own q.d, .dead, .dead], ?_, rfl, ?_, fzL_pls _, rfl, ?_⟩
          · simp
          · unfold fCP
            simp [e']
          · refine compD_map fun one _ => ⟨[.bor none (Pl.many .ei ps).d, .own (.str Wk.ei.nm), .dead, .own q.d, .own one.d, .dead], [.bor none (Pl.many .ei ps).d, .own (.str Wk.ei.nm), .dead, .own q.d, .own one.d, .dead], [.bor none (Pl.many .ei ps).d, .own (.str Wk.ei.nm), .dead, .own q.d, .own one.d, .dead], by simp, by simp [fYes], ?_⟩
            unfold fEltE
            simp [one.frz])
        have ew0 : (Pl.many .ei ps).ways = waysS ps := by simp only [Pl.ways, if_true]
        have ew : (ps.flatMap fun q => q.ways.map fun one => one.d) = (waysS ps).map Pl.d := by
          clear c e fpl pd i0 i1 hps few ew0 ih s1 s2 hs h hlc
          induction ps with
          | nil => rfl
          | cons q ps ih => rw [List.flatMap_cons, ih, waysS, List.map_append]
        rw [ew] at c
        rw [ew0]
        have ln : ((waysS ps).map Pl.d).length ≤ 16777216 := by rw [List.length_map]; omega
        have n0 : (Wk.ei.nm = "either") = True := eq_true rfl
        have fY := fzL_pls ps
        generalize (Pl.many .ei ps).d = P at *
        generalize (waysS ps).map Pl.d = X at *
        generalize ps.map Pl.d = Y at *
        generalize fCP (F_ways_n n) = fc at *
        simp [i0, i1, n0, c, fpl, ln, fY]
      · have n0 : (w.nm = "either") = False := eq_false fun z => hw ((Wk.ei_iff w).mp z)
        obtain ⟨n1, n2, n3⟩ := w.ne
        obtain ⟨s3', g3, lp⟩ := kidP_loop (p := (Pl.many w ps).d) (w := w.nm) ps [[]] .dead e (fun r hr => by
          rw [List.mem_singleton] at hr
          subst hr
          have : ps.length ≤ 100 := s1
          simp; omega) (by
          have := pow_le12 hps
          simp
          omega) slF_dead
        have few : (waysP [[]] ps).length ≤ 4096 := by
          have h1 := waysP_len ps [[]]
          have h2 := (rcL_le ps).2.2.2
          have h3 : (2 : Int) ^ (lcL ps).toNat ≤ 2 ^ 12 := pow_mono (by omega)
          have h4 : (2 : Int) ^ 12 = 4096 := by decide
          simp at h1
          omega
        have rl : ∀ r ∈ waysP [[]] ps, r.length ≤ 1000 := fun r hr => by
          have hs' : ps.length ≤ 100 ∧ smL ps := hs
          have := (waysP_fit ps (depL ps) [[]] 0 (Nat.le_refl _) hs'.2 (fun r hr => by
            rw [List.mem_singleton] at hr
            subst hr
            exact ⟨rfl, fun q hq => nomatch hq⟩) r hr).1
          omega
        have ew : (Pl.many w ps).ways.map Pl.d = (waysP [[]] ps).map fun r => (Pl.many w r).d := by
          simp only [Pl.ways, if_neg hw, List.map_map]
          rfl
        rw [ew]
        have fr := frzL_rows (waysP [[]] ps)
        have k3 : ∀ j, killS j s3' = s3' := fun j => killS_f g3
        have c : compM [5] (gChk .own (gNm 5)) fYes fTupP ((waysP [[]] ps).map rowZ) [.bor none (Pl.many w ps).d, .own (.str w.nm), .own (rwsZ (waysP [[]] ps)), s3', .dead, .dead] = some ((waysP [[]] ps).map fun r => (Pl.many w r).d, [.bor none (Pl.many w ps).d, .own (.str w.nm), .own (rwsZ (waysP [[]] ps)), s3', .dead, .dead]) :=
          compM_map fun r hr => by
            have rd : (Pl.many w r).d = .node false .tup [.str w.nm, .node false .lst (r.map Pl.d)] := by simp [Pl.d, plsD_eq]
            have rfz := frzL_pls r
            have rz2 := fzL_pls r
            have rl' := rl r hr
            have rr : rowZ r = .node false .lst (r.map Pl.d) := rfl
            have ol : oList [.node false .lst (r.map Pl.d)] = some (.node true .lst (r.map Pl.d)) := by
              have : (r.map Pl.d).length ≤ 16777216 := by rw [List.length_map]; omega
              simp [rfz, this]
            rw [rd, rr]
            generalize (Pl.many w ps).d = P at *
            generalize rwsZ (waysP [[]] ps) = W at *
            generalize r.map Pl.d = R at *
            refine ⟨[.bor none P, .own (.str w.nm), .own W, s3', .dead, .own (.node false .lst R)], [.bor none P, .own (.str w.nm), .own W, s3', .dead, .own (.node false .lst R)], [.bor none P, .own (.str w.nm), .own W, s3', .dead, .own (.node false .lst R)], by simp [k3], by simp [fYes], ?_, by simp [k3]⟩
            unfold fTupP
            simp [ol, rfz, rz2, D.fz, fzL]
        have ln : ((waysP [[]] ps).map fun r => (Pl.many w r).d).length ≤ 16777216 := by rw [List.length_map]; omega
        have fl0 : flat .own = true := rfl
        have fY := fzL_rows (waysP [[]] ps)
        have rzo : (L ((waysP [[]] ps).map rowO)).fz = rwsZ (waysP [[]] ps) := by
          show D.node false .lst (fzL ((waysP [[]] ps).map rowO)) = _
          unfold rwsZ
          congr 1
          rw [fzL_map, List.map_map]
          refine List.map_congr_left fun r _ => ?_
          show D.node false .lst (fzL (r.map Pl.d)) = _
          rw [fzL_pls]
          rfl
        have rz : rwsZ (waysP [[]] ps) = .node false .lst ((waysP [[]] ps).map rowZ) := rfl
        rw [rz] at c rzo
        generalize (Pl.many w ps).d = P at *
        generalize (waysP [[]] ps).map (fun r => (Pl.many w r).d) = X at *
        generalize (waysP [[]] ps).map rowZ = RS at *
        generalize (waysP [[]] ps).map rowO = RO at *
        generalize ps.map Pl.d = Y at *
        generalize bodP (F_ways_n n) = bK at *
        have e01 : ([[]] : List (List Pl)).map rowO = [.node true .lst []] := rfl
        rw [e01] at lp
        simp [i0, i1, n0, n1, n2, n3, oIn_pair, lp, fpl, c, ln, fl0, fr, fY, rzo, k3, D.frz]
end My
namespace My
open PySem PySem.Spec L2 DL PL TL
mutual
def Pl.a : Pl → D
  | .ours a b => (Pl.ours a b).d
  | .wea a b c => (Pl.wea a b c).d
  | .wit m p => .node (!p.a.frz) .tup [.str "within", .int m, p.a]
  | .many w ps => .node true .tup [.str w.nm, .node true .lst (aL ps)]
def aL : List Pl → List D
  | [] => []
  | p :: ps => p.a :: aL ps
end
theorem aL_eq : ∀ ps : List Pl, aL ps = ps.map Pl.a
  | [] => rfl
  | p :: ps => by rw [aL, aL_eq ps]; rfl
mutual
theorem a_fz : ∀ p : Pl, p.a.fz = p.d
  | .ours a b => (Pl.ours a b).fz
  | .wea a b c => (Pl.wea a b c).fz
  | .wit m p => by
    have := a_fz p
    rw [Pl.a]
    show D.node false .tup (fzL [.str "within", .int m, p.a]) = _
    simp [fzL, D.fz, this, Pl.d]
  | .many w ps => by
    have := aL_fz ps
    rw [Pl.a]
    show D.node false .tup (fzL [.str w.nm, .node true .lst (aL ps)]) = _
    simp [fzL, D.fz, this, Pl.d]
theorem aL_fz : ∀ ps : List Pl, fzL (aL ps) = plsD ps
  | [] => rfl
  | p :: ps => by
    rw [aL, fzL, a_fz p, aL_fz ps, plsD]
end
theorem anew_ok : ∀ (n : Nat) (p : Pl), p.dep ≤ n → p.sm → F_anew_n n [p.d] = .ret p.a []
  | 0, p, h, _ => absurd (dep_pos p) (by omega)
  | n + 1, p, h, hs => by
    obtain ⟨s1, s2⟩ := sm_kids hs
    have ih : ∀ q ∈ p.kids, F_anew_n n [q.d] = .ret q.a [] := fun q hq => anew_ok n q (dep_kids h q hq) (s2 q hq)
    unfold F_anew_n runF B_anew
    cases p with
    | ours a b => simp [Pl.d, Pl.a, oIn_pair, gStarD]
    | wea a b c =>
      have oz : (oD c).frz = true := by cases c <;> rfl
      simp [Pl.d, Pl.a, oIn_pair, gStarD, oz]
    | wit m q =>
      have e := ih q (by simp [Pl.kids])
      have qf := q.frz
      rw [Pl.a]
      simp [Pl.d, e, qf, frzL, gStarD]
    | many w ps =>
      have e : ∀ q ∈ ps, F_anew_n n [q.d] = .ret q.a [] := ih
      have fpl := frzL_pls ps
      have fY := fzL_pls ps
      have hl : ps.length ≤ 100 := s1
      obtain ⟨n1, n2, n3⟩ := w.ne
      have c : compD (gChk .own (gNm 3)) fYes (fCall (F_anew_n n) [false] ar_anew_1_ [.val (.bor 3)] (aCons (fVar 3) aNil)) [.bor none (Pl.many w ps).d, .own (.str w.nm), .own (.node false .lst [.node false .lst (ps.map Pl.d)]), .dead] (ps.map Pl.d) = some (ps.map Pl.a) :=
        compD_map fun q hq => by
          have e' := e q hq
          exact ⟨[.bor none (Pl.many w ps).d, .own (.str w.nm), .own (.node false .lst [.node false .lst (ps.map Pl.d)]), .own q.d], [.bor none (Pl.many w ps).d, .own (.str w.nm), .own (.node false .lst [.node false .lst (ps.map Pl.d)]), .own q.d], [.bor none (Pl.many w ps).d, .own (.str w.nm), .own (.node false .lst [.node false .lst (ps.map Pl.d)]), .own q.d], by simp, by simp [fYes], by simp [e']⟩
      have pd : (Pl.many w ps).d = .node false .tup [.str w.nm, .node false .lst (ps.map Pl.d)] := by simp [Pl.d, plsD_eq]
      have ln : (ps.map Pl.a).length ≤ 16777216 := by rw [List.length_map]; omega
      rw [Pl.a, aL_eq]
      rw [pd] at c ⊢
      generalize ps.map Pl.a = X at *
      generalize ps.map Pl.d = Y at *
      simp [n1, n2, n3, oIn_pair, fpl, fY, c, ln, frzL, D.frz, gStarD]
mutual
def Pl.c : Pl → D
  | .ours a b => (Pl.ours a b).d
  | .wea a b c => (Pl.wea a b c).d
  | .wit m p => (Pl.wit m p).d
  | .many w ps => .node true .tup [.str w.nm, .node true .lst (cL ps)]
def cL : List Pl → List D
  | [] => []
  | p :: ps => p.c :: cL ps
end
theorem cL_eq : ∀ ps : List Pl, cL ps = ps.map Pl.c
  | [] => rfl
  | p :: ps => by rw [cL, cL_eq ps]; rfl
mutual
theorem c_fz : ∀ p : Pl, p.c.fz = p.d
  | .ours a b => (Pl.ours a b).fz
  | .wea a b c => (Pl.wea a b c).fz
  | .wit m p => (Pl.wit m p).fz
  | .many w ps => by
    have := cL_fz ps
    rw [Pl.c]
    show D.node false .tup (fzL [.str w.nm, .node true .lst (cL ps)]) = _
    simp [fzL, D.fz, this, Pl.d]
theorem cL_fz : ∀ ps : List Pl, fzL (cL ps) = plsD ps
  | [] => rfl
  | p :: ps => by
    rw [cL, fzL, c_fz p, cL_fz ps, plsD]
end
theorem copy_ok : ∀ (n : Nat) (p : Pl), p.dep ≤ n → p.sm → F__law_plan_copy_n n [p.d] = .ret p.c []
  | 0, p, h, _ => absurd (dep_pos p) (by omega)
  | n + 1, p, h, hs => by
    obtain ⟨s1, s2⟩ := sm_kids hs
    have ih : ∀ q ∈ p.kids, F__law_plan_copy_n n [q.d] = .ret q.c [] := fun q hq => copy_ok n q (dep_kids h q hq) (s2 q hq)
    unfold F__law_plan_copy_n runF B__law_plan_copy
    cases p with
    | ours a b => simp [Pl.d, Pl.c, oIn_pairL]
    | wea a b c =>
      have := (Pl.wea a b c).frz
      simp [Pl.d] at this
      simp [Pl.d, Pl.c, oIn_pairL, this]
    | wit m q =>
      have e := ih q (by simp [Pl.kids])
      have qf := q.frz
      have cf := c_fz q
      have i0 : oItm [(Pl.wit m q).d, .int 0] = some (.str "within") := rfl
      have i2 : oItm [(Pl.wit m q).d, .int 2] = some q.d := rfl
      have sl : oSl (Pl.wit m q).d none (some 2) = some (.node false .tup [.str "within", .int m]) := by
        show (if frzL [.str "within", .int m, q.d] = true then some (D.node false .tup (cutD [.str "within", .int m, q.d] none (some 2))) else none) = _
        rw [if_pos (by simp [frzL, D.frz, qf])]
        rfl
      have ad : oAdd [.node false .tup [.str "within", .int m], .node false .tup [q.d]] = some (.node false .tup [.str "within", .int m, q.d]) := by
        show (if frzL [D.str "within", .int m] = true ∧ frzL [q.d] = true ∧ [D.str "within", .int m] ≠ [] ∧ [q.d] ≠ [] ∧ [D.str "within", .int m].length + [q.d].length ≤ sizeLine then some (D.node false .tup ([D.str "within", .int m] ++ [q.d])) else none) = _
        rw [if_pos ⟨rfl, by simp [frzL, qf], by simp, by simp, by rw [sizeLine_eq]; simp⟩]
        rfl
      rw [Pl.c]
      have pd : (Pl.wit m q).d = .node false .tup [.str "within", .int m, q.d] := rfl
      rw [← pd] at ad
      generalize (Pl.wit m q).d = P at *
      simp [i0, i2, e, oIn_pairL, sl, ad, cf, D.fz, fzL]
    | many w ps =>
      have e : ∀ q ∈ ps, F__law_plan_copy_n n [q.d] = .ret q.c [] := ih
      have fpl := frzL_pls ps
      have fY := fzL_pls ps
      have hl : ps.length ≤ 100 := s1
      obtain ⟨n1, n2, n3⟩ := w.ne
      have i0 : oItm [(Pl.many w ps).d, .int 0] = some (.str w.nm) := by simp [Pl.d, plsD_eq]
      have i1 : oItm [(Pl.many w ps).d, .int 1] = some (.node false .lst (ps.map Pl.d)) := by simp [Pl.d, plsD_eq]
      have c : compD (gChk .own (gNm 1)) fYes (fCall (F__law_plan_copy_n n) [false] ar__law_plan_copy_1_ [.val (.bor 1)] (aCons (fVar 1) aNil)) [.bor none (Pl.many w ps).d, .dead] (ps.map Pl.d) = some (ps.map Pl.c) :=
        compD_map fun q hq => by
          have e' := e q hq
          exact ⟨[.bor none (Pl.many w ps).d, .own q.d], [.bor none (Pl.many w ps).d, .own q.d], [.bor none (Pl.many w ps).d, .own q.d], by simp, by simp [fYes], by simp [e']⟩
      have ln : (ps.map Pl.c).length ≤ 16777216 := by rw [List.length_map]; omega
      rw [Pl.c, cL_eq]
      generalize (Pl.many w ps).d = P at *
      generalize ps.map Pl.c = X at *
      generalize ps.map Pl.d = Y at *
      simp [i0, i1, n1, n2, n3, oIn_pairL, fpl, fY, c, ln, frzL, D.frz]
theorem readings_ok {p : Pl} (hd : p.dep ≤ 6) (hs : p.sm) (hg : p.good = true) : F_readings [p.d] = .ret (.node true .lst (p.ways.map Pl.a)) [] := by
  have np := need_plan_ok (p := p) (by omega) hs hg
  have hlc : p.lc ≤ 12 := by
    unfold Pl.good at hg
    simp at hg
    omega
  have w : F_ways [p.d] = .ret (.node true .lst (p.ways.map Pl.d)) [] := ways_ok 8 p (by omega) hs hlc
  have fits := ways_fit p 6 hd hs
  have few := ways_few hlc
  have fY := fzL_pls p.ways
  have c : compD (gChk .own G_readings_1) T_readings_1 E_readings_1 [.bor none p.d, .dead] (p.ways.map Pl.d) = some (p.ways.map Pl.a) :=
    compD_map fun q hq => by
      have e' : F_anew [q.d] = .ret q.a [] := anew_ok 8 q (by have := (fits q hq).1; omega) (fits q hq).2
      exact ⟨[.bor none p.d, .own q.d], [.bor none p.d, .own q.d], [.bor none p.d, .own q.d], by simp [G_readings_1], by simp [T_readings_1, fYes], by simp [E_readings_1, e']⟩
  have ln : (p.ways.map Pl.a).length ≤ 16777216 := by rw [List.length_map]; omega
  unfold F_readings runF B_readings
  generalize p.d = P at *
  generalize p.ways.map Pl.a = X at *
  generalize p.ways.map Pl.d = Y at *
  simp [np, w, fY, c, ln]
end My
namespace My
open PySem PySem.Spec L2 DL PL TL
theorem ev_fWrk {F : List D → Fo} {p p' : D} (h : wrkD F p = some p') : fWrk F [.own p, .dead] = .nxt [.own p', .dead] := by
  unfold fWrk
  dsimp only
  rw [h]
def WrkOk (F : List D → Fo) (d : D) : Prop := ∃ c', F [d] = .ret .non [c'] ∧ (d.frz = false → c'.frz = false)
theorem loopK_ok {F : List D → Fo} : ∀ ds : List D, (∀ d ∈ ds, WrkOk F d) → ∃ rs, loopK F ds = some rs ∧ rs.length = ds.length ∧ ∀ d ∈ ds, d.frz = false → ∃ r ∈ rs, r.frz = false
  | [], _ => ⟨[], rfl, rfl, fun d hd => nomatch hd⟩
  | d :: ds, h => by
    obtain ⟨rs, h1, h2, h3⟩ := loopK_ok ds fun e he => h e (List.mem_cons_of_mem _ he)
    obtain ⟨c', q1, q2⟩ := h d (List.mem_cons_self ..)
    by_cases hz : d.frz = true
    · refine ⟨d :: rs, ?_, by simp [h2], fun e he hf => ?_⟩
      · unfold loopK
        rw [q1]
        dsimp only
        rw [if_pos hz, h1]
        rfl
      · rcases List.mem_cons.mp he with rfl | he
        · rw [hz] at hf; cases hf
        · obtain ⟨r, hr, hrf⟩ := h3 e he hf
          exact ⟨r, List.mem_cons_of_mem _ hr, hrf⟩
    · have hz' : d.frz = false := by simpa using hz
      have q3 := q2 hz'
      refine ⟨c' :: rs, ?_, by simp [h2], fun e he hf => ?_⟩
      · unfold loopK
        rw [q1]
        dsimp only
        rw [if_neg hz, if_pos q3, h1]
        rfl
      · rcases List.mem_cons.mp he with rfl | he
        · exact ⟨c', List.mem_cons_self .., q3⟩
        · obtain ⟨r, hr, hrf⟩ := h3 e he hf
          exact ⟨r, List.mem_cons_of_mem _ hr, hrf⟩
theorem oNotIn3 (x a b c : Str) (o : Bool) : oNotInAny [.str x, .node o .lst [.str a, .str b, .str c]] = some (.bl (!(decide (x = a) || decide (x = b) || decide (x = c)))) := by
  have q := oNotIn_str x o [a, b, c]
  rw [show ([a, b, c] : List Str).map D.str = [.str a, .str b, .str c] from rfl] at q
  rw [q]
  simp [Bool.or_assoc]
theorem a_nod (p : Pl) : nodD p.a = true := by cases p <;> rfl
theorem wreck_ok : ∀ (n : Nat) (p : Pl), p.dep ≤ n → p.sm → WrkOk (F__law_wreck_n n) p.a
  | 0, p, h, _ => absurd (dep_pos p) (by omega)
  | n + 1, p, h, hs => by
    obtain ⟨s1, s2⟩ := sm_kids hs
    have ih : ∀ q ∈ p.kids, WrkOk (F__law_wreck_n n) q.a := fun q hq => wreck_ok n q (dep_kids h q hq) (s2 q hq)
    unfold WrkOk F__law_wreck_n runF B__law_wreck
    cases p with
    | ours a b =>
      refine ⟨(Pl.ours a b).d, ?_, fun z => by cases z⟩
      have hw : wrkD (F__law_wreck_n n) (Pl.ours a b).d = some (Pl.ours a b).d := by
        show wrkD _ (.node false .tup [.str "ours", .int a, .int b]) = _
        unfold wrkD
        dsimp only
        rw [if_pos (Or.inl rfl), if_pos (show [D.int a, D.int b].all sclD = true from rfl)]
        rfl
      have e := ev_fWrk hw
      have i0 : oItm [(Pl.ours a b).d, .int 0] = some (.str "ours") := rfl
      rw [Pl.a]
      generalize (Pl.ours a b).d = P at *
      simp [e, i0, oNotIn3]
    | wea a b c =>
      refine ⟨(Pl.wea a b c).d, ?_, fun z => by
        have := (Pl.wea a b c).frz
        rw [Pl.a] at z
        rw [this] at z
        cases z⟩
      have hw : wrkD (F__law_wreck_n n) (Pl.wea a b c).d = some (Pl.wea a b c).d := by
        show wrkD _ (.node false .tup [.str "weather", .int a, .int b, oD c]) = _
        unfold wrkD
        dsimp only
        rw [if_pos (Or.inr rfl), if_pos (by cases c <;> rfl)]
        rfl
      have e := ev_fWrk hw
      have i0 : oItm [(Pl.wea a b c).d, .int 0] = some (.str "weather") := rfl
      rw [Pl.a]
      generalize (Pl.wea a b c).d = P at *
      simp [e, i0, oNotIn3]
    | wit m q =>
      obtain ⟨rs, h1, h2, h3⟩ := loopK_ok [q.a] fun d hd => by
        rw [List.mem_singleton] at hd
        subst hd
        exact ih q (by simp [Pl.kids])
      match rs, h1, h2, h3 with
      | [c'], h1, _, h3 =>
      refine ⟨.node (!q.a.frz) .tup [.str "within", .int m, c'], ?_, fun z => ?_⟩
      · have hw : wrkD (F__law_wreck_n n) (Pl.wit m q).a = some (.node (!q.a.frz) .tup [.str "within", .int m, c']) := by
          rw [Pl.a]
          unfold wrkD
          dsimp only
          rw [if_neg (by decide), if_pos rfl]
          rw [if_pos ⟨rfl, a_nod q, by cases q.a.frz <;> simp⟩, h1]
          rfl
        have e := ev_fWrk hw
        have i0 : oItm [.node (!q.a.frz) .tup [.str "within", .int m, c'], .int 0] = some (.str "within") := rfl
        generalize (D.node (!q.a.frz) .tup [.str "within", .int m, c']) = P at *
        simp [e, i0, oNotIn3]
      · rw [Pl.a] at z
        have hq : q.a.frz = false := by
          cases hq : q.a.frz with
          | false => rfl
          | true => rw [hq] at z; simp [D.frz, frzL, hq] at z
        rw [hq]
        rfl
    | many w ps =>
      have e0 : ∀ d ∈ aL ps, WrkOk (F__law_wreck_n n) d := fun d hd => by
        rw [aL_eq] at hd
        obtain ⟨q, hq, rfl⟩ := List.mem_map.mp hd
        exact ih q hq
      obtain ⟨rs, h1, h2, h3⟩ := loopK_ok (aL ps) e0
      obtain ⟨n1, n2, n3⟩ := w.ne
      have hl : rs.length ≤ 100 := by
        rw [h2, aL_eq, List.length_map]
        exact s1
      refine ⟨.node true .tup [.str w.nm, .node true .lst (rs ++ [.node false .tup [.str "ours", .int 9, .int 9]])], ?_, fun _ => rfl⟩
      have hw : wrkD (F__law_wreck_n n) (Pl.many w ps).a = some (.node true .tup [.str w.nm, .node true .lst rs]) := by
        rw [Pl.a]
        unfold wrkD
        dsimp only
        rw [if_neg (fun z => Or.elim z n1 n2), if_neg n3]
        rw [h1]
        rfl
      have e := ev_fWrk hw
      have l1 : rs.length < 16777216 := by omega
      have ih2 : ∀ e : Evn, pIxH (.node true .tup [.str w.nm, .node true .lst rs], id) (.ok (.int 1) e) = some (.node true .lst rs, fun x => .node true .tup [.str w.nm, x]) := fun e => rfl
      generalize (Pl.many w ps).a = P at *
      simp [e, n1, n2, n3, oNotIn3, opAppend, l1, ih2]
end My
namespace My
open PySem PySem.Spec L2 DL PL TL
theorem pln_oD (c : Option Int) (n : Nat) : Pln (n + 1) (oD c) := by cases c <;> trivial
theorem pln_pl : ∀ (n : Nat) (p : Pl), 2 * p.dep ≤ n → p.sm → Pln n p.d
  | 0, p, h, _ => absurd (dep_pos p) (by omega)
  | 1, p, h, _ => absurd (dep_pos p) (by omega)
  | n + 2, p, h, hs => by
    cases p with
    | ours a b =>
      refine ⟨by simp, fun x hx => ?_⟩
      simp only [List.mem_cons, List.not_mem_nil, or_false] at hx
      rcases hx with rfl | rfl | rfl <;> trivial
    | wea a b c =>
      refine ⟨by simp, fun x hx => ?_⟩
      simp only [List.mem_cons, List.not_mem_nil, or_false] at hx
      rcases hx with rfl | rfl | rfl | rfl
      · trivial
      · trivial
      · trivial
      · exact pln_oD c n
    | wit m p =>
      simp only [Pl.dep] at h
      have ih := pln_pl (n + 1) p (by omega) hs
      refine ⟨by simp, fun x hx => ?_⟩
      simp only [List.mem_cons, List.not_mem_nil, or_false] at hx
      rcases hx with rfl | rfl | rfl
      · trivial
      · trivial
      · exact ih
    | many w ps =>
      have hk := dep_kids (p := .many w ps) (n := (Pl.many w ps).dep - 1) (by have := dep_pos (.many w ps); omega)
      obtain ⟨s1, s2⟩ := sm_kids hs
      rw [Pl.d, plsD_eq]
      refine ⟨by simp, fun x hx => ?_⟩
      simp only [List.mem_cons, List.not_mem_nil, or_false] at hx
      rcases hx with rfl | rfl
      · trivial
      · refine ⟨by rw [List.length_map]; exact Nat.le_trans s1 (by decide), fun y hy => ?_⟩
        obtain ⟨q, hq, rfl⟩ := List.mem_map.mp hy
        have := hk q hq
        exact pln_pl n q (by have := dep_pos (.many w ps); omega) (s2 q hq)
theorem pln_of_fz : ∀ (n : Nat) (d : D), Pln n d.fz → Pln n d
  | 0, d, h => h
  | n + 1, d, h => by
    cases d with
    | node o s xs =>
      have key : ∀ x ∈ xs, Pln n x.fz → Pln n x := fun x _ => pln_of_fz n x
      cases s with
      | lst =>
        obtain ⟨h1, h2⟩ := h
        rw [fzL_map] at h1 h2
        exact ⟨by simpa using h1, fun x hx => key x hx (h2 _ (List.mem_map_of_mem hx))⟩
      | tup =>
        obtain ⟨h1, h2⟩ := h
        rw [fzL_map] at h1 h2
        exact ⟨by simpa using h1, fun x hx => key x hx (h2 _ (List.mem_map_of_mem hx))⟩
      | dic ks =>
        obtain ⟨⟨h1, h2⟩, h3, h4⟩ := h
        rw [fzL_map] at h1 h2 h3
        exact ⟨⟨by simpa using h1, fun x hx => key x hx (h2 _ (List.mem_map_of_mem hx))⟩, by simpa using h3, h4⟩
      | _ => exact h
    | tscr _ _ => exact h.elim
    | _ => exact h
abbrev E9 (xs : List Int) (f t p h du st : D) (s8 : Sl) : Evn := [.bor none (.scr xs), .own f, .own wordsL, .own t, .own p, .own h, .own du, .own st, s8]
def Q_1 : FS := (fAsg .own (fCall F_readings [false] ar_readings_1_ [.val (.bor 5)] (aCons (fVar 5) aNil)) (gNm 8))
def Q_2 : FS := (fIfS (fOr (fNot (fB (fCall F__law_same [false, false] ar__law_same_2_ [.val (.bor 8), .val (.bor 6)] (aCons (fVar 8) (aCons (fVar 6) aNil))))) (fNot (fB (fCall F__law_same [false, false] ar__law_same_2_ [.val (.bor 5), .val (.bor 4)] (aCons (fVar 5) (aCons (fVar 4) aNil)))))) (fRet (fC (.bl false))) fNext)
def Q_3 : FS := (fExpr (fLendI F__law_wreck 8 0))
def Q_4 : FS := (fIfS (fOr (fNot (fB (fZ [8, 6] (fCall F__law_same [false, false] ar__law_same_2_ [.val .own, .val .own] (aCons (fSl (fVar 8) (fPart (fC (.int 1))) (fun env => .ok none env)) (aCons (fSl (fVar 6) (fPart (fC (.int 1))) (fun env => .ok none env)) aNil)))))) (fNot (fB (fCall F__law_same [false, false] ar__law_same_2_ [.val (.bor 5), .val (.bor 4)] (aCons (fVar 5) (aCons (fVar 4) aNil)))))) (fRet (fC (.bl false))) fNext)
def Q_5 : FS := (fExpr (fMut 8 (pVar 8) "list" aNil opRev))
theorem L1_eq : L_law_1 = fSeq Q_1 (fSeq Q_2 (fSeq Q_3 (fSeq Q_4 Q_5))) := rfl
theorem seq_nx {a b : FS} {env e : Evn} (h : a env = .nxt e) : fSeq a b env = b e := by unfold fSeq; rw [h]
section
variable {xs : List Int} {f t st : D} {p : Pl} {s8 : Sl}
theorem q_1 (hd : p.dep ≤ 6) (hs : p.sm) (hg : p.good = true) (h8 : SlF s8) {du : D} : Q_1 (E9 xs f t p.d p.d du st s8) = .nxt (E9 xs f t p.d p.d du st (.own (L (p.ways.map Pl.a)))) := by
  have r := readings_ok hd hs hg
  generalize p.d = P at *
  generalize p.ways.map Pl.a = X at *
  unfold Q_1
  simp [r]
theorem same_pd (hd : p.dep ≤ 6) (hs : p.sm) : F__law_same [p.d, p.d] = .ret (.bl true) [] := same_true 16 _ _ (pln_pl 16 p (by omega) hs) rfl
theorem ways_a_fz : ∀ qs : List Pl, fzL (qs.map Pl.a) = qs.map Pl.d
  | [] => rfl
  | q :: qs => by rw [List.map_cons, List.map_cons, fzL, a_fz, ways_a_fz qs]
theorem same_ways {du : List D} {qs : List Pl} (hq : ∀ q ∈ qs, Fit 6 q) (hl : qs.length ≤ 100000) {o : Bool} (hz : fzL du = qs.map Pl.d) : F__law_same [.node o .lst du, L (qs.map Pl.d)] = .ret (.bl true) [] := by
  refine same_true 16 _ _ ?_ ?_
  · refine pln_of_fz 16 _ ?_
    show Pln 16 (.node false .lst (fzL du))
    rw [hz]
    refine ⟨by rw [List.length_map]; exact hl, fun x hx => ?_⟩
    obtain ⟨q, hq', rfl⟩ := List.mem_map.mp hx
    exact pln_pl 15 q (by have := (hq q hq').1; omega) (hq q hq').2
  · show D.node false .lst (fzL du) = .node false .lst (fzL (qs.map Pl.d))
    rw [hz, fzL_pls]
theorem q_2 (hd : p.dep ≤ 6) (hs : p.sm) (hlc : p.lc ≤ 12) : Q_2 (E9 xs f t p.d p.d (L (p.ways.map Pl.d)) st (.own (L (p.ways.map Pl.a)))) = .nxt (E9 xs f t p.d p.d (L (p.ways.map Pl.d)) st (.own (L (p.ways.map Pl.a)))) := by
  have e1 := same_ways (o := true) (ways_fit p 6 hd hs) (by have := ways_few hlc; omega) (ways_a_fz p.ways)
  have e2 := same_pd hd hs
  have e1' : F__law_same [L (p.ways.map Pl.a), L (p.ways.map Pl.d)] = .ret (.bl true) [] := e1
  generalize p.d = P at *
  generalize p.ways.map Pl.a = X at *
  generalize p.ways.map Pl.d = Y at *
  unfold Q_2
  simp [e1', e2]
theorem q_3 (hd : p.dep ≤ 6) (hs : p.sm) (hne : p.ways ≠ []) {du : D} : ∃ X, X.drop 1 = (p.ways.map Pl.a).drop 1 ∧ Q_3 (E9 xs f t p.d p.d du st (.own (L (p.ways.map Pl.a)))) = .nxt (E9 xs f t p.d p.d du st (.own (L X))) := by
  match hw : p.ways, hne with
  | q :: qs, _ =>
  have fq := ways_fit p 6 hd hs q (by rw [hw]; exact List.mem_cons_self ..)
  obtain ⟨c', e1, e2⟩ := wreck_ok 8 q (by have := fq.1; omega) fq.2
  have e1' : F__law_wreck [q.a] = .ret .non [c'] := e1
  rw [List.map_cons]
  by_cases hz : q.a.frz = true
  · refine ⟨q.a :: qs.map Pl.a, rfl, ?_⟩
    unfold Q_3 fExpr fLendI
    generalize q.a = qa at *
    generalize p.d = P at *
    generalize qs.map Pl.a = X at *
    simp [e1', hz]
  · have hz' : q.a.frz = false := by simpa using hz
    have hz2 := e2 hz'
    refine ⟨c' :: qs.map Pl.a, rfl, ?_⟩
    unfold Q_3 fExpr fLendI
    generalize q.a = qa at *
    generalize p.d = P at *
    generalize qs.map Pl.a = X at *
    simp [e1', hz', hz2]
theorem q_4 (hd : p.dep ≤ 6) (hs : p.sm) (hlc : p.lc ≤ 12) {X : List D} (hX : X.drop 1 = (p.ways.map Pl.a).drop 1) : Q_4 (E9 xs f t p.d p.d (L (p.ways.map Pl.d)) st (.own (L X))) = .nxt (E9 xs f t p.d p.d (L (p.ways.map Pl.d)) st (.own (L X))) := by
  have e2 := same_pd hd hs
  have hdr : fzL (X.drop 1) = (p.ways.drop 1).map Pl.d := by rw [hX, ← List.map_drop, ways_a_fz]
  have e1 := same_ways (du := fzL (X.drop 1)) (o := true) (qs := p.ways.drop 1) (fun q hq => ways_fit p 6 hd hs q (List.mem_of_mem_drop hq)) (by have := ways_few hlc; rw [List.length_drop]; omega) (by rw [hdr, fzL_pls])
  have s1 : oSl (.node false .lst (fzL X)) (some 1) none = some (.node true .lst (fzL (X.drop 1))) := by
    rw [oSl_drop (by decide) (fzL_frz _)]
    congr 2
    rw [fzL_map, fzL_map, List.map_drop]
    rfl
  have s2 : oSl (.node false .lst (fzL (p.ways.map Pl.d))) (some 1) none = some (L ((p.ways.drop 1).map Pl.d)) := by
    rw [fzL_pls, oSl_drop (by decide) (frzL_pls _), ← List.map_drop]
    rfl
  generalize p.d = P at *
  generalize (p.ways.drop 1).map Pl.d = Y1 at *
  generalize p.ways.map Pl.d = Y at *
  clear hdr hX
  generalize fzL (X.drop 1) = T at *
  unfold Q_4
  simp [e2, fZ, frzS, s1, s2, e1, D.fz, noFz]
theorem q_5 {P du : D} {X : List D} : Q_5 (E9 xs f t P P du st (.own (L X))) = .nxt (E9 xs f t P P du st (.own (L X.reverse))) := by
  unfold Q_5
  simp
theorem good_lc (hg : p.good = true) : p.lc ≤ 12 := by
  unfold Pl.good at hg
  simp at hg
  omega
theorem step_ok (hd : p.dep ≤ 6) (hs : p.sm) (hg : p.good = true) (hne : p.ways ≠ []) (h8 : SlF s8) :
    ∃ s8', SlF s8' ∧ L_law_1 (E9 xs f t p.d p.d (L (p.ways.map Pl.d)) st s8) = .nxt (E9 xs f t p.d p.d (L (p.ways.map Pl.d)) st s8') := by
  have hlc := good_lc hg
  have e1 := q_1 (xs := xs) (f := f) (t := t) (st := st) (du := L (p.ways.map Pl.d)) hd hs hg h8
  have e2 := q_2 (xs := xs) (f := f) (t := t) (st := st) hd hs hlc
  obtain ⟨X, hX, e3⟩ := q_3 (xs := xs) (f := f) (t := t) (st := st) (du := L (p.ways.map Pl.d)) hd hs hne
  have e4 := q_4 (xs := xs) (f := f) (t := t) (st := st) hd hs hlc hX
  refine ⟨.own (L X.reverse), slF_own, ?_⟩
  rw [L1_eq, seq_nx e1, seq_nx e2, seq_nx e3, seq_nx e4]
  exact q_5
end
mutual
theorem form_rc : ∀ p : Pl, p.form = true → 1 ≤ p.rc
  | .ours a b, _ => by simp [Pl.rc]
  | .wea a b c, _ => by simp [Pl.rc]
  | .wit m p, h => by
    simp only [Pl.form, Bool.and_eq_true] at h
    simp only [Pl.rc]
    exact form_rc p h.2
  | .many w ps, h => by
    simp only [Pl.form, Bool.and_eq_true] at h
    obtain ⟨h1, h2⟩ := h
    simp only [Pl.rc]
    have hne : 1 ≤ ps.length := by
      unfold inB at h1
      simp only [Bool.and_eq_true, decide_eq_true_eq] at h1
      omega
    split
    · exact form_rcS ps h2 hne
    · exact form_rcP ps h2
theorem form_rcS : ∀ ps : List Pl, formL ps = true → 1 ≤ ps.length → 1 ≤ rcS ps
  | [], _, h => absurd h (by simp)
  | p :: ps, h, _ => by
    simp only [formL, Bool.and_eq_true] at h
    have h1 := form_rc p h.1
    have h2 := (rcL_le ps).1
    rw [rcS]
    omega
theorem form_rcP : ∀ ps : List Pl, formL ps = true → 1 ≤ rcP ps
  | [], _ => by simp [rcP]
  | p :: ps, h => by
    simp only [formL, Bool.and_eq_true] at h
    have h1 := form_rc p h.1
    have h2 := form_rcP ps h.2
    rw [rcP]
    have := Int.mul_le_mul h1 h2 (by omega) (by omega)
    omega
end
theorem good_ways {p : Pl} (hg : p.good = true) : p.ways ≠ [] := fun z => by
  have h1 := ways_len p
  rw [z] at h1
  have hf : p.form = true := by
    unfold Pl.good at hg
    simp at hg
    exact hg.1.1
  have := form_rc p hf
  simp at h1
  omega
end My
namespace My
open PySem PySem.Spec L2 DL PL TL
abbrev EA (xs : List Int) (f : D) (s3 s4 s5 s6 s7 s8 : Sl) : Evn := [.bor none (.scr xs), .own f, .own wordsL, s3, s4, s5, s6, s7, s8]
section
variable {xs : List Int} {f t : D} {s4 s5 s6 s7 s8 : Sl}
theorem two_steps {p : Pl} (hd : p.dep ≤ 6) (hs : p.sm) (hg : p.good = true) (h7 : SlF s7) (h8 : SlF s8) :
    ∃ s7' s8', (SlF s7' ∧ SlF s8') ∧ loopD (gChk .own G_law_1) L_law_1 ([0, 1].map fun i : Int => D.int i) (EA xs f (.own t) (.own p.d) (.own p.d) (.own (L (p.ways.map Pl.d))) s7 s8) = .nxt (EA xs f (.own t) (.own p.d) (.own p.d) (.own (L (p.ways.map Pl.d))) s7' s8') := by
  have hne := good_ways hg
  obtain ⟨e', l1, s7', s8', rfl, g7, g8⟩ := loop_ix (g := gChk .own G_law_1) (fb := L_law_1) (fun i : Int => D.int i) [0, 1] (fun _ e => ∃ (s7 s8 : Sl), e = EA xs f (.own t) (.own p.d) (.own p.d) (.own (L (p.ways.map Pl.d))) s7 s8 ∧ SlF s7 ∧ SlF s8)
    (EA xs f (.own t) (.own p.d) (.own p.d) (.own (L (p.ways.map Pl.d))) s7 s8) ⟨s7, s8, rfl, h7, h8⟩ (by
      rintro q a r e _ ⟨t7, t8, rfl, k7, k8⟩
      obtain ⟨s8', g8, eq⟩ := step_ok (xs := xs) (f := f) (t := t) (st := .int a) hd hs hg hne k8
      have st : gChk .own G_law_1 (.int a) (EA xs f (.own t) (.own p.d) (.own p.d) (.own (L (p.ways.map Pl.d))) t7 t8) = some (E9 xs f t p.d p.d (L (p.ways.map Pl.d)) (.int a) t8) := by
        generalize p.d = P at *
        generalize p.ways.map Pl.d = X at *
        simp [G_law_1, killS_f k8]
      unfold stepI
      rw [st]
      simp only [eq]
      exact ⟨.own (.int a), s8', rfl, slF_own, g8⟩)
  exact ⟨s7', s8', ⟨g7, g8⟩, l1⟩
theorem turn_ok (hf : FlOk f) (h4 : SlF s4) (h5 : SlF s5) (h6 : SlF s6) (h7 : SlF s7) (h8 : SlF s8) :
    ∃ (f' : D) (s4' s5' s6' s7' s8' : Sl), FlOk f' ∧ (SlF s4' ∧ SlF s5' ∧ SlF s6' ∧ SlF s7' ∧ SlF s8') ∧ L_law_2 (EA xs f (.own t) s4 s5 s6 s7 s8) = .nxt (EA xs f' (.own t) s4' s5' s6' s7' s8') := by
  obtain ⟨d, p, f1, e1, g1, z1, k1, hs⟩ := plan_draw (far := 9) (by decide) (by decide) 8 4 (by decide) (by decide) f hf
  have e1' : F__law_plan [f, .int 4, wordsL, .int 9] = .ret d [f1] := e1
  have hd : p.dep ≤ 6 := by omega
  have gp := good_plan_ok (p := p) (by omega) hs
  have k4 : ∀ j, killS j s4 = s4 := fun j => killS_f h4
  have k5 : ∀ j, killS j s5 = s5 := fun j => killS_f h5
  have k6 : ∀ j, killS j s6 = s6 := fun j => killS_f h6
  have k7 : ∀ j, killS j s7 = s7 := fun j => killS_f h7
  have k8 : ∀ j, killS j s8 = s8 := fun j => killS_f h8
  have wz : wordsL.frz = true := rfl
  have pz := p.fz
  have pf := p.frz
  cases hg : p.good with
  | false =>
    rw [hg] at gp
    refine ⟨f1, .own p.d, s5, s6, s7, s8, g1, ⟨slF_own, h5, h6, h7, h8⟩, ?_⟩
    simp only [EA]
    generalize p.d = P at *
    generalize wordsL = wl at *
    unfold L_law_2
    simp [e1', z1, gp, wz, pz, pf, k4, k5, k6, k7, k8]
  | true =>
    rw [hg] at gp
    have cp : F__law_plan_copy [p.d] = .ret p.c [] := copy_ok 8 p (by omega) hs
    have cz := c_fz p
    have wy : F__law_ways [p.d] = .ret (L (p.ways.map Pl.d)) [] := law_ways_ok 8 p (by omega) hs (good_lc hg)
    obtain ⟨s7', s8', ⟨g7, g8⟩, lp⟩ := two_steps (xs := xs) (f := f1) (t := t) hd hs hg h7 h8
    have rg1 : rng1D [.int 2] = some ([0, 1].map fun i : Int => D.int i) := rfl
    refine ⟨f1, .own p.d, .own p.d, .own (L (p.ways.map Pl.d)), s7', s8', g1, ⟨slF_own, slF_own, slF_own, g7, g8⟩, ?_⟩
    simp only [EA] at lp ⊢
    generalize p.d = P at *
    generalize p.c = C at *
    generalize p.ways.map Pl.d = X at *
    generalize wordsL = wl at *
    simp only [List.map_cons, List.map_nil] at lp rg1
    unfold L_law_2
    generalize L_law_1 = Lb at *
    simp [e1', z1, gp, wz, pz, pf, cp, cz, wy, rg1, lp, k4, k5, k6, k7, k8]
end
theorem law_ok (xs : List Int) : F_law [.scr xs] = .ret (.bl true) [] := by
  obtain ⟨f0, e0, g0⟩ := flow_ok xs
  obtain ⟨e', l1, f, s3, s4, s5, s6, s7, s8, rfl, hf, h3, h4, h5, h6, h7, h8⟩ := loop_ix (g := gChk .own G_law_2) (fb := L_law_2) (fun i : Int => D.int i) [0, 1, 2, 3] (fun _ e => ∃ (f : D) (s3 s4 s5 s6 s7 s8 : Sl), e = EA xs f s3 s4 s5 s6 s7 s8 ∧ FlOk f ∧ SlF s3 ∧ SlF s4 ∧ SlF s5 ∧ SlF s6 ∧ SlF s7 ∧ SlF s8)
    (EA xs f0 .dead .dead .dead .dead .dead .dead) ⟨f0, .dead, .dead, .dead, .dead, .dead, .dead, rfl, g0, slF_dead, slF_dead, slF_dead, slF_dead, slF_dead, slF_dead⟩ (by
      rintro q a r e _ ⟨f, s3, s4, s5, s6, s7, s8, rfl, hf, h3, h4, h5, h6, h7, h8⟩
      obtain ⟨f', s4', s5', s6', s7', s8', g1, ⟨k4, k5, k6, k7, k8⟩, eq⟩ := turn_ok (xs := xs) (t := .int a) hf h4 h5 h6 h7 h8
      have st : gChk .own G_law_2 (.int a) (EA xs f s3 s4 s5 s6 s7 s8) = some (EA xs f (.own (.int a)) s4 s5 s6 s7 s8) := by
        simp [G_law_2, killS_f h4, killS_f h5, killS_f h6, killS_f h7, killS_f h8]
      unfold stepI
      rw [st]
      simp only [eq]
      exact ⟨f', .own (.int a), s4', s5', s6', s7', s8', rfl, g1, slF_own, k4, k5, k6, k7, k8⟩)
  have rg1 : rng1D [.int 4] = some ([0, 1, 2, 3].map fun i : Int => D.int i) := rfl
  have w0 : (D.node true .lst [.str "then", .str "either", .str "beside", .str "either", .str "within"]).fz = wordsL := rfl
  have rd : F_readings [.node false .tup [.str "ours", .int 1, .int 2]] = .ret (L [.node false .tup [.str "ours", .int 1, .int 2]]) [] := readings_ok (p := .ours 1 2) (by decide) trivial (by decide)
  have sm : F__law_same [L [.node false .tup [.str "ours", .int 1, .int 2]], L [.node false .tup [.str "ours", .int 1, .int 2]]] = .ret (.bl true) [] := same_ways (du := [.node false .tup [.str "ours", .int 1, .int 2]]) (qs := [.ours 1 2]) (fun q hq => by
    rw [List.mem_singleton] at hq
    subst hq
    exact ⟨by decide, trivial⟩) (by decide) rfl
  simp only [EA] at l1
  unfold F_law runF B_law
  generalize L_law_2 = Lb at *
  generalize wordsL = wl at *
  simp only [List.map_cons, List.map_nil] at l1 rg1
  simp [e0, w0, rg1, l1, rd, sm]
end My
namespace My
open PySem PySem.Spec L2 DL
theorem facts {P : Program} {w : World} {K : PySem.W.Frag} {h : Heap} {mg : Str → Option Value} {f : Addr} (X : K.In h) (G : h.Ns mainGlobals mg) (hfa : mg ("law" : Str) = some (.ref f)) (c : He.SaysX fa2 fn [(fun K => He.ga K "SIZES", ["ours", "weather", "then", "beside", "either", "within"])] [] ex w h K) :
    ∃ fd : FuncData, (∀ (s : Shared) (v : Value), BindsTo s fd ⟨[v], []⟩ [("_law_script", v)]) ∧ ∀ base : Heap, K.In base → base.Ns mainGlobals mg → FnOk P w K mg base (L2.CX P w) 18 f fd ["_law_script"] (spD K [false] F_law) := by
  have fc : FC fa K mg := FC_of X G fun i f hi => c.t.d.fact i (f := f) (get_app hi)
  have hex := c.more
  unfold ex at hex
  simp only [Bool.and_eq_true] at hex
  obtain ⟨⟨⟨⟨⟨⟨h_tab_bool, h_tab_int⟩, h_tab_list⟩, h_tab_tuple⟩, h_tab_dict⟩, h_tab_str⟩, hv_SIZES⟩ := hex
  obtain ⟨fd__law_flow, fn__law_flow⟩ := c.t.d.def_ 0 (d := dd__law_flow) rfl
  obtain ⟨fd__law_whole, fn__law_whole⟩ := c.t.d.def_ 1 (d := dd__law_whole) rfl
  obtain ⟨fd__law_good_leaf, fn__law_good_leaf⟩ := c.t.d.def_ 2 (d := dd__law_good_leaf) rfl
  obtain ⟨fd__law_good_form, fn__law_good_form⟩ := c.t.d.def_ 3 (d := dd__law_good_form) rfl
  obtain ⟨fd__law_kids, fn__law_kids⟩ := c.t.d.def_ 4 (d := dd__law_kids) rfl
  obtain ⟨fd__law_leaf_count, fn__law_leaf_count⟩ := c.t.d.def_ 5 (d := dd__law_leaf_count) rfl
  obtain ⟨fd__law_plan_depth, fn__law_plan_depth⟩ := c.t.d.def_ 6 (d := dd__law_plan_depth) rfl
  obtain ⟨fd__law_reading_count, fn__law_reading_count⟩ := c.t.d.def_ 7 (d := dd__law_reading_count) rfl
  obtain ⟨fd__law_good_plan, fn__law_good_plan⟩ := c.t.d.def_ 8 (d := dd__law_good_plan) rfl
  obtain ⟨fd__law_draw, fn__law_draw⟩ := c.t.d.def_ 9 (d := dd__law_draw) rfl
  obtain ⟨fd__law_leaf, fn__law_leaf⟩ := c.t.d.def_ 10 (d := dd__law_leaf) rfl
  obtain ⟨fd__law_plan, fn__law_plan⟩ := c.t.d.def_ 11 (d := dd__law_plan) rfl
  obtain ⟨fd__law_plan_copy, fn__law_plan_copy⟩ := c.t.d.def_ 12 (d := dd__law_plan_copy) rfl
  obtain ⟨fd__law_same, fn__law_same⟩ := c.t.d.def_ 13 (d := dd__law_same) rfl
  obtain ⟨fd__law_ways, fn__law_ways⟩ := c.t.d.def_ 14 (d := dd__law_ways) rfl
  obtain ⟨fd__law_wreck, fn__law_wreck⟩ := c.t.d.def_ 15 (d := dd__law_wreck) rfl
  obtain ⟨fd_anew, fn_anew⟩ := c.t.d.def_ 16 (d := dd_anew) rfl
  obtain ⟨fd_parts_of, fn_parts_of⟩ := c.t.d.def_ 17 (d := dd_parts_of) rfl
  obtain ⟨fd_choices, fn_choices⟩ := c.t.d.def_ 18 (d := dd_choices) rfl
  obtain ⟨fd_is_within, fn_is_within⟩ := c.t.d.def_ 19 (d := dd_is_within) rfl
  obtain ⟨fd_is_leaf, fn_is_leaf⟩ := c.t.d.def_ 20 (d := dd_is_leaf) rfl
  obtain ⟨fd_is_formed, fn_is_formed⟩ := c.t.d.def_ 21 (d := dd_is_formed) rfl
  obtain ⟨fd_leaves, fn_leaves⟩ := c.t.d.def_ 22 (d := dd_leaves) rfl
  obtain ⟨fd_need_plan, fn_need_plan⟩ := c.t.d.def_ 23 (d := dd_need_plan) rfl
  obtain ⟨fd_ways, fn_ways⟩ := c.t.d.def_ 24 (d := dd_ways) rfl
  obtain ⟨fd_readings, fn_readings⟩ := c.t.d.def_ 25 (d := dd_readings) rfl
  obtain ⟨fd_law, fn_law⟩ := c.t.d.def_ 26 (d := dd_law) rfl
  have b__law_whole_3_ : BOk K fd__law_whole ["_law_thing", "_law_low", "_law_high"] 3 [] [.arg 0, .arg 1, .arg 2] := bt__law_whole_3_ fn__law_whole
  have b__law_good_form_1_ : BOk K fd__law_good_form ["_law_plan_here"] 1 [] [.arg 0] := bt__law_good_form_1_ fn__law_good_form
  have b__law_good_leaf_1_ : BOk K fd__law_good_leaf ["_law_plan_here"] 1 [] [.arg 0] := bt__law_good_leaf_1_ fn__law_good_leaf
  have b__law_leaf_count_1_ : BOk K fd__law_leaf_count ["_law_plan_here"] 1 [] [.arg 0] := bt__law_leaf_count_1_ fn__law_leaf_count
  have b__law_kids_1_ : BOk K fd__law_kids ["_law_plan_here"] 1 [] [.arg 0] := bt__law_kids_1_ fn__law_kids
  have b__law_plan_depth_1_ : BOk K fd__law_plan_depth ["_law_plan_here"] 1 [] [.arg 0] := bt__law_plan_depth_1_ fn__law_plan_depth
  have b__law_reading_count_1_ : BOk K fd__law_reading_count ["_law_plan_here"] 1 [] [.arg 0] := bt__law_reading_count_1_ fn__law_reading_count
  have b__law_draw_2_ : BOk K fd__law_draw ["_law_flow_here", "_law_size"] 2 [] [.arg 0, .arg 1] := bt__law_draw_2_ fn__law_draw
  have b__law_plan_4_ : BOk K fd__law_plan ["_law_flow_here", "_law_bottom", "_law_words", "_law_far"] 4 [] [.arg 0, .arg 1, .arg 2, .arg 3] := bt__law_plan_4_ fn__law_plan
  have b__law_leaf_2_ : BOk K fd__law_leaf ["_law_flow_here", "_law_far"] 2 [] [.arg 0, .arg 1] := bt__law_leaf_2_ fn__law_leaf
  have b__law_plan_copy_1_ : BOk K fd__law_plan_copy ["_law_plan_here"] 1 [] [.arg 0] := bt__law_plan_copy_1_ fn__law_plan_copy
  have b__law_same_2_ : BOk K fd__law_same ["_law_found", "_law_due"] 2 [] [.arg 0, .arg 1] := bt__law_same_2_ fn__law_same
  have b__law_ways_1_ : BOk K fd__law_ways ["_law_plan_here"] 1 [] [.arg 0] := bt__law_ways_1_ fn__law_ways
  have b__law_wreck_1_ : BOk K fd__law_wreck ["_law_plan_here"] 1 [] [.arg 0] := bt__law_wreck_1_ fn__law_wreck
  have b_anew_1_ : BOk K fd_anew ["plan"] 1 [] [.arg 0] := bt_anew_1_ fn_anew
  have b_parts_of_1_ : BOk K fd_parts_of ["plan"] 1 [] [.arg 0] := bt_parts_of_1_ fn_parts_of
  have b_choices_1_ : BOk K fd_choices ["plan"] 1 [] [.arg 0] := bt_choices_1_ fn_choices
  have b_is_within_3_ : BOk K fd_is_within ["thing", "low", "high"] 3 [] [.arg 0, .arg 1, .arg 2] := bt_is_within_3_ fn_is_within
  have b_is_formed_2_ : BOk K fd_is_formed ["plan", "deep"] 2 [] [.arg 0, .arg 1] := bt_is_formed_2_ fn_is_formed
  have b_is_leaf_1_ : BOk K fd_is_leaf ["plan"] 1 [] [.arg 0] := bt_is_leaf_1_ fn_is_leaf
  have b_leaves_1_ : BOk K fd_leaves ["plan"] 1 [] [.arg 0] := bt_leaves_1_ fn_leaves
  have b_ways_1_ : BOk K fd_ways ["plan"] 1 [] [.arg 0] := bt_ways_1_ fn_ways
  have b_need_plan_1_ : BOk K fd_need_plan ["plan"] 1 [] [.arg 0] := bt_need_plan_1_ fn_need_plan
  have b_readings_1_ : BOk K fd_readings ["plan"] 1 [] [.arg 0] := bt_readings_1_ fn_readings
  have b__law_good_plan_1_ : BOk K fd__law_good_plan ["_law_plan_here"] 1 [] [.arg 0] := bt__law_good_plan_1_ fn__law_good_plan
  have b__law_flow_1_ : BOk K fd__law_flow ["_law_script"] 1 [] [.arg 0] := bt__law_flow_1_ fn__law_flow
  have e := hfa.symm.trans (He.glo_ok X G (c.t.d.fact 45 (f := .glo "law") rfl))
  cases e
  refine ⟨fd_law, fun s v => FunD.bindsA (ps := ["_law_script"]) fn_law (fun _ _ _ _ _ _ us hl => match us, hl with | [_], _ => rfl) s [v] rfl, fun base _ _ => ?_⟩
  have k_SIZES : ∃ es n, L2.KDict K w (He.ga K "SIZES") es n := c.t.tab 0
  have d__law_flow := t__law_flow (P := P) (w := w) (base := base) fc fn__law_flow
  have d__law_whole := t__law_whole (P := P) (w := w) (base := base) fc h_tab_bool h_tab_int fn__law_whole
  have d__law_good_leaf := t__law_good_leaf (P := P) (w := w) (base := base) fc fn__law_good_leaf d__law_whole fn__law_whole.kp b__law_whole_3_
  have d__law_good_form : FnOk P w K mg base (L2.CX P w) 11 (He.ga K "_law_good_form") fd__law_good_form ["_law_plan_here"] (spD K [false] F__law_good_form) := t__law_good_form (lv := 0) fc h_tab_list h_tab_tuple fn__law_good_form d__law_whole fn__law_whole.kp d__law_good_leaf fn__law_good_leaf.kp fn__law_good_form.kp b__law_good_form_1_ b__law_whole_3_ b__law_good_leaf_1_ 8
  have d__law_kids := t__law_kids (P := P) (w := w) (base := base) fc fn__law_kids
  have d__law_leaf_count : FnOk P w K mg base (L2.CX P w) 10 (He.ga K "_law_leaf_count") fd__law_leaf_count ["_law_plan_here"] (spD K [false] F__law_leaf_count) := t__law_leaf_count (lv := 0) fc fn__law_leaf_count d__law_kids fn__law_kids.kp fn__law_leaf_count.kp b__law_leaf_count_1_ b__law_kids_1_ 8
  have d__law_plan_depth : FnOk P w K mg base (L2.CX P w) 10 (He.ga K "_law_plan_depth") fd__law_plan_depth ["_law_plan_here"] (spD K [false] F__law_plan_depth) := t__law_plan_depth (lv := 0) fc fn__law_plan_depth d__law_kids fn__law_kids.kp fn__law_plan_depth.kp b__law_kids_1_ b__law_plan_depth_1_ 8
  have d__law_reading_count : FnOk P w K mg base (L2.CX P w) 10 (He.ga K "_law_reading_count") fd__law_reading_count ["_law_plan_here"] (spD K [false] F__law_reading_count) := t__law_reading_count (lv := 0) fc fn__law_reading_count d__law_kids fn__law_kids.kp fn__law_reading_count.kp b__law_kids_1_ b__law_reading_count_1_ 8
  have d__law_good_plan := t__law_good_plan (P := P) (w := w) (base := base) fc fn__law_good_plan d__law_reading_count fn__law_reading_count.kp d__law_leaf_count fn__law_leaf_count.kp d__law_plan_depth fn__law_plan_depth.kp d__law_good_form fn__law_good_form.kp b__law_reading_count_1_ b__law_leaf_count_1_ b__law_plan_depth_1_ b__law_good_form_1_
  have d__law_draw := t__law_draw (P := P) (w := w) (base := base) fc fn__law_draw
  have d__law_leaf := t__law_leaf (P := P) (w := w) (base := base) fc fn__law_leaf d__law_draw fn__law_draw.kp b__law_draw_2_
  have d__law_plan : FnOk P w K mg base (L2.CX P w) 11 (He.ga K "_law_plan") fd__law_plan ["_law_flow_here", "_law_bottom", "_law_words", "_law_far"] (spD K [true, false, false, false] F__law_plan) := t__law_plan (lv := 0) fc fn__law_plan d__law_draw fn__law_draw.kp d__law_leaf fn__law_leaf.kp fn__law_plan.kp b__law_plan_4_ b__law_draw_2_ b__law_leaf_2_ 8
  have d__law_plan_copy : FnOk P w K mg base (L2.CX P w) 9 (He.ga K "_law_plan_copy") fd__law_plan_copy ["_law_plan_here"] (spD K [false] F__law_plan_copy) := t__law_plan_copy (lv := 0) fc fn__law_plan_copy fn__law_plan_copy.kp b__law_plan_copy_1_ 8
  have d__law_same : FnOk P w K mg base (L2.CX P w) 17 (He.ga K "_law_same") fd__law_same ["_law_found", "_law_due"] (spD K [false, false] F__law_same) := t__law_same (lv := 0) fc h_tab_list h_tab_tuple h_tab_dict h_tab_str h_tab_int h_tab_bool fn__law_same fn__law_same.kp b__law_same_2_ 16
  have d__law_ways : FnOk P w K mg base (L2.CX P w) 9 (He.ga K "_law_ways") fd__law_ways ["_law_plan_here"] (spD K [false] F__law_ways) := t__law_ways (lv := 0) fc fn__law_ways fn__law_ways.kp b__law_ways_1_ 8
  have d__law_wreck : FnOk P w K mg base (L2.CX P w) 10 (He.ga K "_law_wreck") fd__law_wreck ["_law_plan_here"] (spD K [true] F__law_wreck) := t__law_wreck (lv := 0) fc fn__law_wreck d__law_kids fn__law_kids.kp fn__law_wreck.kp b__law_kids_1_ b__law_wreck_1_ 8
  have d_anew : FnOk P w K mg base (L2.CX P w) 9 (He.ga K "anew") fd_anew ["plan"] (spD K [false] F_anew) := t_anew (lv := 0) fc fn_anew fn_anew.kp b_anew_1_ 8
  have d_parts_of := t_parts_of (P := P) (w := w) (base := base) fc fn_parts_of
  have d_choices : FnOk P w K mg base (L2.CX P w) 10 (He.ga K "choices") fd_choices ["plan"] (spD K [false] F_choices) := t_choices (lv := 0) fc fn_choices d_parts_of fn_parts_of.kp fn_choices.kp b_parts_of_1_ b_choices_1_ 8
  have d_is_within := t_is_within (P := P) (w := w) (base := base) fc h_tab_bool h_tab_int fn_is_within
  have d_is_leaf := t_is_leaf (P := P) (w := w) (base := base) fc fn_is_leaf d_is_within fn_is_within.kp b_is_within_3_
  have d_is_formed : FnOk P w K mg base (L2.CX P w) 11 (He.ga K "is_formed") fd_is_formed ["plan", "deep"] (spD K [false, false] F_is_formed) := t_is_formed (lv := 0) fc h_tab_list h_tab_str h_tab_tuple k_SIZES hv_SIZES fn_is_formed d_is_within fn_is_within.kp d_is_leaf fn_is_leaf.kp fn_is_formed.kp b_is_formed_2_ b_is_within_3_ b_is_leaf_1_ 8
  have d_leaves : FnOk P w K mg base (L2.CX P w) 10 (He.ga K "leaves") fd_leaves ["plan"] (spD K [false] F_leaves) := t_leaves (lv := 0) fc fn_leaves d_parts_of fn_parts_of.kp fn_leaves.kp b_parts_of_1_ b_leaves_1_ 8
  have d_need_plan := t_need_plan (P := P) (w := w) (base := base) fc fn_need_plan d_choices fn_choices.kp d_leaves fn_leaves.kp d_is_formed fn_is_formed.kp b_choices_1_ b_leaves_1_ b_is_formed_2_
  have d_ways : FnOk P w K mg base (L2.CX P w) 9 (He.ga K "ways") fd_ways ["plan"] (spD K [false] F_ways) := t_ways (lv := 0) fc fn_ways fn_ways.kp b_ways_1_ 8
  have d_readings := t_readings (P := P) (w := w) (base := base) fc fn_readings d_ways fn_ways.kp d_anew fn_anew.kp d_need_plan fn_need_plan.kp b_ways_1_ b_anew_1_ b_need_plan_1_
  exact t_law fc fn_law d__law_same fn__law_same.kp d_readings fn_readings.kp d__law_good_plan fn__law_good_plan.kp d__law_wreck fn__law_wreck.kp d__law_ways fn__law_ways.kp d__law_plan_copy fn__law_plan_copy.kp d__law_plan fn__law_plan.kp d__law_flow fn__law_flow.kp b__law_same_2_ b_readings_1_ b__law_good_plan_1_ b__law_wreck_1_ b__law_ways_1_ b__law_plan_copy_1_ b__law_plan_4_ b__law_flow_1_
end My
open PySem PySem.W PySem.Calls PyProof.Rows
theorem PySem.Challenge.cw_tidewaiter_k50_readings_told_holds : PySem.Challenge.rw_tidewaiter_k50_readings_told.Holds := by
  w_on; o_law
  refine HandSHeadRun.head_any (r := OpenLaw.row PySem.Challenge.rw_tidewaiter_k50_readings_told) (q := view (OpenLaw.row PySem.Challenge.rw_tidewaiter_k50_readings_told).prog [38]) (H := My.hkY) (ob := My.ob) (M := 20000) (loose := My.loose) (d := HandSHeadRun.topDef (OpenLaw.row PySem.Challenge.rw_tidewaiter_k50_readings_told).prog 38) (kwd := []) My.ob_eq
    (by kernel_rfl) (fun s => by kernel_rfl) My.run (by kernel_rfl) (by kernel_rfl) (by kernel_rfl) (by rfl) (by first | assumption | decide +kernel) (by decide +kernel) ⟨rfl, rfl, rfl, rfl, rfl, by decide +kernel⟩ ?hw ?hc
  case hw => w_witness2
  case hc =>
    refine L2.walk_ofE (l := PySem.Challenge.rw_tidewaiter_k50_readings_told) (n := 63) (k := 18) (x := "_law_script") (CX := DL.CXw (PySem.Challenge.rw_tidewaiter_k50_readings_told).prog) rfl (by decide) (by kernel_rfl) ⟨rfl, by decide, by decide⟩ ?F (fun _ _ _ _ z => DL.cxw_false z)
    intro w mg fa h Y G hmg0
    obtain ⟨K, KX, c⟩ := Y
    have hmg : mg ("law" : PySem.Str) = some (.ref fa) := by
      have e : (HandSHeadRun.topDef (OpenLaw.row PySem.Challenge.rw_tidewaiter_k50_readings_told).prog 38).name = ("law" : PySem.Str) := by kernel_rfl
      rw [← e]
      exact hmg0
    obtain ⟨fd, hb, hF⟩ := My.facts (P := (PySem.Challenge.rw_tidewaiter_k50_readings_told).prog) (w := w) KX G hmg c
    exact ⟨K, fd, DL.spD K [false] My.F_law, KX, hb, fun H a ns _ hO hS => DL.spD_law hO hS (My.law_ok ns), fun base h1 h2 => DL.fnOk_w (hF base h1 h2)⟩
